import PyProof.Rows.All
import Wide.All
import OpenK.AllK
import Wide.FinOn
import PyProof.EqAt
import PyProof.EqKinds
import PyProof.TupleCall
import KE.GoesEnum
import HandS.ForMost
import HandS.Walk
import KE.SortData
import KE.KDictSum
import KE.KDictCopyH
import KE.KDictPairs
import KE.KDictKeyed
import HandS.Conv
import HandS.ForExc
import HandS.ExcIs
import PySem.Challenge.RW_pairbooks_k04_whole_ways_to_rest
import HandS.Defaults
import HandS.Wide
import HandS.Style
import HandS.IsInst
import HandS.Deep
import HandS.TupLe
import HandS.TupAny
import HandS.TupLen
import HandS.Zip
import HandS.Words
import HandS.Codes
import HandS.ExcOwn
import KE.KStateDown
import HandS.Head0
import HandS.Head1
import HandS.Head2
import HandS.HeadEnd
import HandS.HeadHook1
import HandS.HeadHook2
set_option Elab.async false
set_option linter.all false
set_option maxRecDepth 100000
set_option maxHeartbeats 4000000
/-! enumerate over a tuple -/
namespace K4R
open PySem PySem.Spec PyProof.Rows L2
theorem meets_enum1 {v : Value} {o : Obj} {H : Heap → Prop} (B : Begins v o H) :
    Meets (Builtin.«enumerate.__new__» ⟨[.type "enumerate", v], []⟩) (fun _ R s => H s.heap ∧
      R (.ok (.ret (.ref (s.heap.push o).objs.size))) { s with heap := (s.heap.push o).push { cls := .type "enumerate", data := .fields #[.none, .bool false, .ref s.heap.objs.size, rawInt 0, .none, .none] } }) :=
  .of_wp fun prog w A R s h => by
    obtain ⟨hp, g, d, tk, os⟩ := s; obtain ⟨h1, h⟩ := h
    have hsub := sub_enumerate
    have q1 : ∀ {A' : Around} {E : Value → Shared → Prop} {Q : Value → Shared → Prop}, Q (.ref hp.objs.size) ⟨hp.push o, g, d, tk, os⟩ → wpAny (model prog w) A' (pyIter v) Q E ⟨hp, g, d, tk, os⟩ :=
      fun q => B.iter prog w _ _ ⟨hp, g, d, tk, os⟩ _ h1 q
    wp_walk using q1
    refine wpAny_stack_any fun st => wpAny_pure ?_
    split
    · rename_i c _ _ _ _ _
      cases (c == Value.type "enumerate")
      · wp_walk using q1
        exact ⟨_, rfl, h⟩
      · wp_walk using q1
        exact ⟨_, rfl, h⟩
    · wp_walk using q1
      exact ⟨_, rfl, h⟩
section
variable {prog : Program} {w : World} {A : Around} {E : Value → Shared → Prop} {s : Shared}
theorem call_enumT {v : Value} {o : Obj} {H : Heap → Prop} {Q : Value → Shared → Prop} (B : Begins v o H) (h1 : H s.heap)
    (h : ∀ h', IsEnum h' (s.heap.objs.size + 1) s.heap.objs.size 0 .none → h'.get? s.heap.objs.size = some o → h'.objs.size = s.heap.objs.size + 2 →
      (∀ b o, s.heap.get? b = some o → h'.get? b = some o) → Q (.ref (s.heap.objs.size + 1)) { s with heap := h' }) :
    wpAny (model prog w) A (call (.type "enumerate") [v]) Q E s := by
  refine callType_new F.called_enumerate (by decide) (F.typeCall_enumerate_1 _) (F.newCall_enumerate_1 _) (fun obj => F.args_object_init_2 obj _) F.entry_enumerate_new
    (meets_enum1 B) ⟨h1, ?_⟩
  have hz : (s.heap.push o).objs.size = s.heap.objs.size + 1 := Heap.size_push ..
  show _ ∧ _
  rw [hz]
  have he : IsEnum ((s.heap.push o).push { cls := .type "enumerate", data := .fields #[.none, .bool false, .ref s.heap.objs.size, rawInt 0, .none, .none] }) (s.heap.objs.size + 1) s.heap.objs.size 0 .none := by
    have := Heap.get?_push_size (s.heap.push o) (o := { cls := .type "enumerate", data := .fields #[.none, .bool false, .ref s.heap.objs.size, rawInt 0, .none, .none] }) rfl
    rw [hz] at this; exact this
  refine ⟨⟨_, he, rfl⟩, h _ he (Heap.get?_push_of_some _ (Heap.get?_push_size _ B.free)) (by rw [Heap.size_push, hz]) fun b o x => Heap.get?_push_of_some _ (Heap.get?_push_of_some _ x)⟩
end
/-- the tuple at a, each item in a new pair -/
def IteT (K : PySem.W.Frag) (a : Addr) : It :=
  ⟨fun i H => ∃ (xs : List V) (x : V), SqT K H a xs ∧ xs[i]? = some x, fun i H v H' => ∃ T x, v = .ref T ∧ H T = none ∧ H' = upd H T (.tup [.int (i : Nat), x]) ∧ ∀ xs, SqT K H a xs → xs[i]? = some x, fun i H => ∃ xs : List V, SqT K H a xs ∧ xs.length ≤ i⟩
theorem turn_enumT {P : Program} {w : World} {K : PySem.W.Frag} {elts : List Expr} {kk : Nat} {tpos : Pos} (a e it : Addr) :
    Turn P w K (.Tuple elts kk tpos) (IteT K a) [e, it] e (fun i h => (∃ old, IsEnum h e it ((i : Nat) : Int) old) ∧ h.IsTupleIter it a i ∧ e ≠ it ∧ a ≠ it) where
  mem := by simp
  obj := fun i h st b hb => by
    obtain ⟨⟨old, he⟩, ⟨o, ho, hc, hd⟩, _⟩ := st
    have e' : b = e ∨ b = it := by simpa using hb
    rcases e' with z | z
    · rw [z]; exact ⟨_, he, fun v q => nomatch q⟩
    · rw [z]; exact ⟨o, ho, fun v q => by rw [hd] at q; cases q⟩
  keep := fun i h h' st k => let ⟨⟨old, he⟩, hi, hne, hna⟩ := st; ⟨⟨old, k e (by simp) _ he⟩, hi.at fun o q => k it (by simp) o q, hne, hna⟩
  item := by
    intro X hP hw hK hc i pins s σ H E I hf st hg
    subst hP hw hK
    obtain ⟨⟨old, he⟩, hit, hne, hna⟩ := st
    obtain ⟨xs, x, hq, hx⟩ := hg
    obtain ⟨its, rv, p, hz⟩ := I.tuple hq
    obtain ⟨u, hu, ru⟩ := rv.get hx
    have hel : e < s.heap.objs.size := Heap.lt_size he
    have hil : it < s.heap.objs.size := by obtain ⟨_, q, _⟩ := hit; exact Heap.lt_size q
    have D := Draws.tuple (prog := X.prog) (w := X.w) (A := X.A.in1) (I.ok.hd hc) it a hna its.toArray
    have hlt : i < its.toArray.size := by
      have q := (List.getElem?_eq_some_iff.mp hu).1
      simpa using q
    have hp : s.heap.IsTuple a its.toArray := p
    refine wpAny_pyNext_enum_itemD D he ⟨hit, hp⟩ hlt hne (by
      intro q
      have e' : e = it ∨ e = a := by simpa using q
      rcases e' with z | z
      · exact hne z
      · obtain ⟨o, ho, hcl, _⟩ := id hp
        rw [← z, he] at ho
        cases ho
        have hc2 : Value.type "enumerate" = Value.type "tuple" := hcl
        injection hc2 with hc3
        exact absurd hc3 (by decide)) fun y h' tk hy ho hst' hT hsz hk => ?_
    have huy : y = u := by
      have q : its.toArray[i]? = some u := by simpa using hu
      rw [q] at hy
      exact (Option.some.inj hy).symm
    subst huy
    refine ⟨_, rfl, wpAny_letOwnedTupleGo_enum (s := { s with heap := h', toks := tk + 1 }) ho fun h'' he' sb => ?_⟩
    have hT2 : h''.get? s.heap.objs.size = some { cls := .type "tuple", data := .seq #[.int i tk, y] } := (sb.2 _ (Nat.ne_of_gt hel)).trans hT
    have new : ObjOk X.prog X.w (upd H s.heap.objs.size (.tup [.int (i : Nat), x])) h'' s.heap.objs.size (.tup [.int (i : Nat), x]) :=
      ⟨by show 2 ≤ sizeLine; decide, [.int i tk, y], .cons ⟨_, rfl⟩ (.cons ru .nil), ⟨_, hT2, rfl, _, rfl⟩⟩
    have I1 : Inv X pins σ (upd H s.heap.objs.size (.tup [.int (i : Nat), x])) { s with heap := h'', toks := tk + 1 } :=
      I.turnedNew (ch := [e, it]) (fun b ob hb q => (sb.2 b (fun z => hb (by simp [z]))).trans (hk b ob (fun z => hb (by simp [z])) (fun z => hb (by simp [z])) q)) hf (Nat.le_refl _) new
    refine ⟨.ref s.heap.objs.size, _, I1, rfl, ⟨_, x, rfl, I.hok.fresh (Nat.le_refl _), rfl, fun ys hy => by rw [I.tuple_inj hy hq]; exact hx⟩, ⟨⟨y, ?_⟩, hst'.1.at fun o q => (sb.2 it (Ne.symm hne)).trans q, hne, hna⟩, fun b hb => ?_⟩
    · have e1 : ((i + 1 : Nat) : Int) = (i : Int) + 1 := by omega
      rw [e1]; exact he'
    · have hb' : b < s.heap.objs.size := by
        have e' : b = e ∨ b = it := by simpa using hb
        rcases e' with z | z
        · rw [z]; exact hel
        · rw [z]; exact hil
      rw [upd_ne (Nat.ne_of_lt hb')]
      exact (hf b hb).1
  done := by
    intro X hP hw hK hc i pins s σ H E I hf st hg
    subst hP hw hK
    obtain ⟨⟨old, he⟩, hit, hne, hna⟩ := st
    obtain ⟨xs, hq, hx⟩ := hg
    obtain ⟨its, rv, p, hz⟩ := I.tuple hq
    obtain ⟨f0, f1, f2, f3, f4, f5⟩ := hf it (by simp)
    have hl := rv.length
    have hp : s.heap.IsTuple a its.toArray := p
    have hT : s.TypeIs (.ref e) "enumerate" := ⟨_, he, rfl⟩
    unfold pyNext
    refine wpAny_bind (wpAny_attempt (wpAny_callSpecial?_slot (name := Str.ofString "__next__") hT F.slot_enumerate_next
      (wpAny_call_entry F.slot_enumerate_next hT F.entry_enumerate_next ?_ (F.args_enumerate_next_1 _))))
    show wpAny _ _ (field (.ref e) 2 >>= _) _ _ _
    refine wpAny_bind (wpAny_field he rfl (x := .ref it) rfl ?_)
    refine wpAny_bind (wpAny_nextOf_tuple_end (I.ok.hd hc) hit hp (by simp; omega) fun h' x he' hx' => ?_)
    obtain ⟨o, ho, hcl⟩ := hx'
    refine wpAny_bind (wpAny_isInstance (T := "StopIteration") (b := true) ⟨o, ho, hcl⟩ isSubtype_stop ?_)
    exact wpAny_pure ⟨rfl, I.turned (t' := s.toks) (fun b o hb q => he' b o hb q) f0 f1 f3 f4 f5⟩
  self := fun A i s Q E st h => let ⟨⟨_, he⟩, _⟩ := st; wpAny_pyIter_enum he h
def iEnumT (K : PySem.W.Frag) (ta : TA) : TI := fun σ H R => ta σ H fun vs H1 => ∃ a xs, vs = [.ref a] ∧ SqT K H1 a xs ∧ R (IteT K a) H1
theorem pi_enumT {X : Cx} {e : Expr} {ta : TA} {p pos tpos : Pos} {elts : List Expr} {kk : Nat} (hg : Gl X "enumerate") (hm : X.mg "enumerate" = none) (ha : PA X [e] ta) (hs : starEach [e] X.env = [(false, eval e X.env)] := by rfl) :
    PI X (.Tuple elts kk tpos) (.Call (.Name "enumerate" p) [e] [] pos) (iEnumT X.K ta) := by
  refine ⟨fun pins s σ H R I h => ?_⟩
  refine Call_ (ld_blt I hg hm boot_enumerate (PyProof.Rows.callWith_type1 (thn (ha.run pos pins s σ H _ I h) fun us s1 ⟨vs, H1, I1, r1, q1⟩ => ?_) hs rfl))
  obtain ⟨a, xs, ex, hq, q⟩ := q1
  subst ex
  cases r1 with
  | cons r rr =>
    cases rr
    cases r
    obtain ⟨its, rv, p', hz⟩ := I1.tuple hq
    have hp : s1.heap.IsTuple a its.toArray := p'
    refine call_enumT (begins_tuple a its.toArray) hp fun h' he hit hsz hk => wpAny_pyIter_enum he ?_
    have I2 : Inv X pins σ H1 { s1 with heap := h' } := I1.kept (t' := s1.toks) hk
    have hna : a ≠ s1.heap.objs.size := by
      obtain ⟨o, ho, _⟩ := id hp
      exact Nat.ne_of_lt (Heap.lt_size ho)
    refine ⟨s1.heap.objs.size + 1, [s1.heap.objs.size + 1, s1.heap.objs.size], _, _, H1, rfl, I2, turn_enumT a (s1.heap.objs.size + 1) s1.heap.objs.size, ⟨⟨.none, he⟩, ⟨_, hit, rfl, rfl⟩, Nat.succ_ne_self _, hna⟩, fun b hb => ?_, q⟩
    have e' : b = s1.heap.objs.size + 1 ∨ b = s1.heap.objs.size := by simpa using hb
    have hle : s1.heap.objs.size ≤ b := by
      rcases e' with z | z
      · rw [z]; exact Nat.le_add_right _ _
      · rw [z]; exact Nat.le_refl _
    exact I1.fpOk hle (I1.hok.fresh hle)
theorem walk_enumT {K : PySem.W.Frag} {a : Addr} {xs : List V} : Walk (IteT K a) xs.length (fun H => SqT K H a xs) (YPair (fun i => some (.int (i : Nat))) (fun i => xs[i]?)) := by
  refine ⟨fun i _ hi q => ⟨xs, xs[i], q, by simp [hi]⟩, fun _ q => ⟨xs, q, Nat.le_refl _⟩, fun i H v H' _ q y => ?_⟩
  obtain ⟨T, x, h1, h2, h3, h4⟩ := y
  exact ⟨T, .int (i : Nat), x, h1, h2, h3, rfl, h4 xs q⟩
end K4R
set_option Elab.async false
set_option linter.all false
set_option maxRecDepth 100000
set_option maxHeartbeats 4000000
/-! tuples of ints in lists and as keys: sorted, d.keys(), dict(..), d != {} -/
namespace K4R
open PySem PySem.Spec PyProof.Rows L2
/-- at a a tuple of these ints -/
def IT (H : Hp) (a : Addr) (ns : List Int) : Prop := H a = some (.tup (ns.map V.int))
abbrev ITs (H : Hp) : List Addr → List (List Int) → Prop := Paired (IT H)
def kI (ns : List Int) : List Key := ns.map Sum.inl
theorem kI_kV (ns : List Int) : (kI ns).map kV = ns.map V.int := by
  unfold kI
  rw [List.map_map]
  rfl
def leI (p q : List Int) : Bool := decide (p ≤ q)
def encI (b : List Int) : PyData := .tuple (b.map .int)
theorem dpAll_ints {K : PySem.W.Frag} {H : Hp} : ∀ ns : List Int, DpAll K H (ns.map V.int) (ns.map PyData.int)
  | [] => .nil
  | n :: r => .cons (.int n) (dpAll_ints r)
theorem IT.dp {K : PySem.W.Frag} {H : Hp} {a : Addr} {ns : List Int} (h : IT H a ns) : Dp K H (.ref a) (encI ns) := .tup (SqT.of h) (dpAll_ints ns)
theorem dataLe_tups : PySem.W.dataLe false encI = leI := by
  funext p q
  show (!PySem.W.dataLt (.tuple (q.map .int)) (.tuple (p.map .int))) = _
  rw [PySem.W.dataLt_tuple]
  show (!PySem.W.rowLt (q.map .int) (p.map .int)) = _
  rw [PySem.W.dataLt_ints]
  unfold leI
  by_cases h : q < p
  · have h' : ¬ p ≤ q := fun r => List.not_lt.mpr r h
    simp [h, h']
  · have h' : p ≤ q := List.not_lt.mp h
    simp [h, h']
theorem alike_encI (a b : List Int) : PySem.W.alike (encI a) (encI b) = true := by
  unfold encI
  simp only [PySem.W.alike]
  exact PySem.W.alike_ints a b
theorem depth_encI (a : List Int) : (encI a).depth = 1 := by
  unfold encI
  simp only [PyData.depth, PySem.W.depth_ints]
section
variable {X : Cx} {pins : List (Addr × Obj)} {σ : L2.St} {H : Hp} {s : Shared}
theorem each_of {us : List Value} : ∀ {as : List Addr} {ks : List (List Int)}, us = as.map Value.ref → ITs H as ks → PySem.W.EachIs (fun v k => ∃ a, v = Value.ref a ∧ IT H a k) us ks
  | [], [], e, .nil => by subst e; exact .nil
  | a :: as, k :: ks, e, .cons h t => by
    subst e
    exact .cons ⟨a, rfl, h⟩ (each_of rfl t)
theorem of_each : ∀ {us : List Value} {ks : List (List Int)}, PySem.W.EachIs (fun v k => ∃ a, v = Value.ref a ∧ IT H a k) us ks → ∃ as, us = as.map Value.ref ∧ ITs H as ks
  | _, _, .nil => ⟨[], rfl, .nil⟩
  | _, _, .cons ⟨a, e, h⟩ t => by
    obtain ⟨as, e2, h2⟩ := of_each t
    exact ⟨a :: as, by rw [e, e2]; rfl, .cons h h2⟩
theorem each_reads (I : Inv X pins σ H s) {us : List Value} : ∀ {ks : List (List Int)} , PySem.W.EachIs (fun v k => ∃ a, v = Value.ref a ∧ IT H a k) us ks → PySem.W.EachIs (fun v k => ∃ as, Reads s.heap v (encI k) as) us ks := fun h =>
  h.mono fun v k ⟨a, e, h⟩ => by
    subst e
    exact Dp.reads I _ _ _ (IT.dp (K := X.K) h) rfl
def rSortedT (K : PySem.W.Frag) : List V → Hp → VK → Prop := fun vs H Q => ∃ (a : Addr) (as : List Addr) (ks : List (List Int)), vs = [V.ref a] ∧ SqL K H a (as.map V.ref) ∧ ITs H as ks ∧ (∀ k ∈ ks, k ≠ []) ∧ ks.length ≤ sizeLine ∧
  ∀ (p : Addr) (bs : List Addr), H p = none → ITs H bs (ks.mergeSort leI) → Q (.ref p) (upd H p (.lst (bs.map V.ref)))
theorem refs_of : ∀ {as : List Addr} {us : List Value}, Vals (as.map V.ref) us → us = as.map Value.ref
  | [], _, .nil => rfl
  | a :: as, _, .cons r t => by
    have r' : _ = Value.ref a := r
    rw [r', refs_of t]
    rfl
theorem allAlike_encI (ks : List (List Int)) : PySem.W.AllAlike (ks.map encI) := PySem.W.AllAlike.of alike_encI
theorem sortable_encI {ks : List (List Int)} (h : ∀ k ∈ ks, k ≠ []) : PySem.W.Sortable (ks.map encI) := .inl fun d hd => by
  obtain ⟨k, hk, rfl⟩ := List.mem_map.mp hd
  cases k with
  | nil => exact absurd rfl (h _ hk)
  | cons x r => exact ⟨_, _, rfl⟩
theorem cr_sortedT (hu : X.A.units + 64 < cLine) : CallR X (.builtin "sorted") (rSortedT X.K) := by
  intro pins s σ H vs us Q I r h
  obtain ⟨a, as, ks, rfl, hs, hk, hne, hz, q⟩ := h
  obtain ⟨its, rv, hl, _⟩ := I.list hs
  rw [Vals.ref1 r]
  have e := each_of (H := H) (refs_of rv) hk
  refine PySem.W.sorted_data (enc := encI) (R := fun v k => ∃ a, v = Value.ref a ∧ IT H a k) hl.isList e (each_reads I e) (allAlike_encI ks) (sortable_encI hne) hz (fun b _ => by rw [depth_encI]; omega) fun out hlen ho => ?_
  rw [dataLe_tups] at ho
  obtain ⟨bs, e2, hb⟩ := of_each ho
  obtain ⟨ep, he'⟩ := PyProof.Rows.sortedAll_at s.heap its (List.toArray out)
  have hlen2 : (bs.map V.ref).length ≤ sizeLine := by
    have q1 : out.length = bs.length := by rw [e2, List.length_map]
    rw [List.length_map, ← q1, hlen]
    exact hz
  refine ⟨.ref _, upd H (s.heap.objs.size + 1) (.lst (bs.map V.ref)), I.laid (t' := s.toks) (fun _ _ => PyProof.Rows.sortedAll_old) (Nat.le_succ _) ⟨hlen2, out, ep, ?_, he'⟩, rfl, q _ bs (I.hok.fresh (Nat.le_succ _)) hb⟩
  rw [e2]
  exact vals_refs bs
end
end K4R
set_option Elab.async false
set_option linter.all false
set_option maxRecDepth 100000
set_option maxHeartbeats 4000000
/-! dicts with tuple keys: d.keys(), sorted(d.keys()), list(d.keys()), for k in d.keys(), dict(d), dict(pairs), d != {} -/
namespace K4R
open PySem PySem.Spec PyProof.Rows L2
/-- the view d.keys() at p -/
def keysO (p d : Addr) : HO := .ext fun h => PySem.W.KdlKeysView h p d
theorem keysO_ok {P : Program} {w : World} {H : Hp} {h : Heap} {p d : Addr} (e : h.get? p = some { cls := .type "dict_keys", data := .fields #[.ref d] }) : ObjOk P w H h p (keysO p d) :=
  ⟨⟨_, e, rfl, rfl⟩, ⟨_, e⟩, fun h1 h2 x k => let ⟨o, ho, r⟩ := x; ⟨o, k o ho, r⟩⟩
/-- the keys of the dict, as int tuples -/
def KeysI (kvs : List (List Key × V)) (ks : List (List Int)) : Prop := kvs.map (·.1) = ks.map kI
theorem raw_of {h : Heap} {d : Addr} {o : Obj} {es : Array DictEntry} {ep : Nat} (ho : h.get? d = some o) (hx : o.ExactDict) (hd : o.data = .dict es ep) : h.DictRaw d es ep := ⟨o, ho, hx, hd⟩
section
variable {X : Cx}
def rKeysT : V → List V → Hp → VK → Prop := fun x xs H Q => ∃ (a : Addr) (kvs : List (List L2.Key × V)), x = .ref a ∧ xs = [] ∧ H a = some (.dT kvs) ∧ ∀ p, H p = none → Q (.ref p) (upd H p (keysO p a))
theorem mt_keysT : MtR X "dict.keys" rKeysT := by
  intro pins s σ H x xs v us Q I rx rxs h
  obtain ⟨a, kvs, rfl, rfl, ha, q⟩ := h
  cases rx
  cases rxs
  obtain ⟨z, hd, xs', rel, o, es, ep, ho, hx, hdat, _⟩ := dt_of I.hok ha
  have hf : H s.heap.objs.size = none := I.hok.fresh (Nat.le_refl _)
  refine call_meetsIn PySem.F.slot_dict_keys (raw_of ho hx hdat).typeIs PySem.F.entry_dict_keys (PySem.F.args_dict_keys_1 _) (meets_dict_keys_raw a hd) ⟨⟨es, ep, raw_of ho hx hdat⟩, ?_⟩
  exact ⟨.ref s.heap.objs.size, upd H s.heap.objs.size (keysO s.heap.objs.size a), I.laid (t' := s.toks) (fun b u e => Heap.get?_push_of_some _ e) (Nat.le_refl _) (keysO_ok (Heap.get?_push_size _ rfl)), rfl, q _ hf⟩
/-- what the keys that were collected are -/
theorem keys_acc {P : Program} {w : World} {H : Hp} {kvs : List (List Key × V)} {xs' : List (List Key × Addr × Value)} {es : Array DictEntry} {acc : Array Value} (rel : KT H kvs xs') (he : es.toList = xs'.map (entryOfKey (tupleKind (mixKind P w))))
    (hacc : ItemsOf (fun i v => ∃ hi : i < es.size, v = es[i].key) acc es.size) : acc.toList = (xs'.map fun x => x.2.1).map Value.ref := by
  have l1 : es.size = xs'.length := size_of_entries he
  have hl : acc.toList.length = xs'.length := by rw [Array.length_toList, hacc.1]; exact l1
  apply List.ext_getElem?
  intro j
  rw [List.getElem?_map, List.getElem?_map]
  cases hj : acc.toList[j]? with
  | none =>
    have h1 := List.getElem?_eq_none_iff.mp hj
    rw [List.getElem?_eq_none (by omega)]
    all_goals rfl
  | some v =>
    obtain ⟨hi, hv⟩ := hacc.2 j v (by rw [← Array.getElem?_toList]; exact hj)
    have qe := entry_at he j
    have hen : es[j]? = some es[j] := Array.getElem?_eq_getElem hi
    rw [hen] at qe
    cases hb : xs'[j]? with
    | none =>
      rw [hb] at qe
      exact nomatch (show some es[j] = none from qe)
    | some b =>
      rw [hb] at qe
      have e2 : es[j] = entryOfKey (tupleKind (mixKind P w)) b := Option.some.inj qe
      rw [hv, e2]
      all_goals rfl
theorem kt_its {H : Hp} : ∀ {kvs : List (List Key × V)} {xs' : List (List Key × Addr × Value)} {ks : List (List Int)}, KT H kvs xs' → KeysI kvs ks → ITs H (xs'.map fun x => x.2.1) ks
  | [], [], [], .nil, _ => .nil
  | [], [], _ :: _, .nil, e => by
    unfold KeysI at e
    simp at e
  | (k, v) :: kvs, x :: xs', [], _, e => by
    unfold KeysI at e
    simp at e
  | (k, v) :: kvs, x :: xs', n :: ks, .cons h t, e => by
    unfold KeysI at e
    simp only [List.map_cons, List.cons.injEq] at e
    obtain ⟨e1, e2⟩ := e
    refine .cons ?_ (kt_its t e2)
    have h2 := h.2.1
    unfold IT
    rw [h2]
    show some (HO.tup (k.map kV)) = _
    rw [e1, kI_kV]
/-- list(d.keys()) -/
def rListKeysT : List V → Hp → VK → Prop := fun vs H Q => ∃ (p d : Addr) (kvs : List (List Key × V)) (ks : List (List Int)), vs = [.ref p] ∧ H p = some (keysO p d) ∧ H d = some (.dT kvs) ∧ KeysI kvs ks ∧
  ∀ q bs, H q = none → ITs H bs ks → Q (.ref q) (upd H q (.lst (bs.map V.ref)))
theorem call_listKeysT (hc : X.calm = true) : CallR X (.type "list") rListKeysT := by
  intro pins s σ H xs us Q I r h
  obtain ⟨p, d, kvs, ks, rfl, hp, hd, hk, q⟩ := h
  rw [Vals.ref1 r]
  have view : PySem.W.KdlKeysView s.heap p d := (show ObjOk X.prog X.w H s.heap p (keysO p d) from I.hok p _ hp).1
  obtain ⟨z, hs, xs', rel, o, es, ep, ho, hx, hdat, he, _, hn⟩ := dt_of I.hok hd
  have l1 : es.size = xs'.length := size_of_entries he
  have l2 : kvs.length = xs'.length := Paired.length rel
  refine PySem.W.kdl_call (KdlSrc.rawKeys (r := p) (d := d) (es := es) (ep := ep)) (I.ok.hd hc) ⟨view, raw_of ho hx hdat⟩ (by omega) fun h' tk acc' c' kp e it => ?_
  have ea := keys_acc rel he it
  have rv : Vals ((xs'.map fun x => x.2.1).map V.ref) acc'.toList := by rw [ea]; exact vals_refs _
  have hz : ((xs'.map fun x => x.2.1).map V.ref).length ≤ sizeLine := by rw [List.length_map, List.length_map]; omega
  refine ⟨.ref s.heap.objs.size, _, I.laid (t' := tk) (o := .lst ((xs'.map fun x => x.2.1).map V.ref)) kp (Nat.le_refl _) ?_, rfl, q _ _ (I.hok.fresh (Nat.le_refl _)) (kt_its rel hk)⟩
  exact ⟨hz, acc'.toList, c', rv, by rw [Array.toArray_toList]; exact e⟩
theorem readsAll_ints {h : Heap} : ∀ (ns : List Int) {us : List Value} {as : List Addr}, ReadsAll h us (ns.map PyData.int) as → as = []
  | [], _, _, r => by
    cases r
    rfl
  | n :: ns, _, _, r => by
    cases r with
    | cons r1 r2 =>
      cases r1
      rw [readsAll_ints ns r2]
      rfl
theorem reads_encI {h : Heap} {u : Value} {b : List Int} {as : List Addr} (r : Reads h u (encI b) as) : as = [] := by
  unfold encI at r
  cases r with
  | tuple h1 h2 h3 h4 => exact readsAll_ints b h4
/-- sorted(d.keys()) -/
def rSortKeysT : List V → Hp → VK → Prop := fun vs H Q => ∃ (p d : Addr) (kvs : List (List Key × V)) (ks : List (List Int)), vs = [.ref p] ∧ H p = some (keysO p d) ∧ H d = some (.dT kvs) ∧ KeysI kvs ks ∧ (∀ k ∈ ks, k ≠ []) ∧
  ∀ q bs, H q = none → ITs H bs (ks.mergeSort leI) → Q (.ref q) (upd H q (.lst (bs.map V.ref)))
theorem cr_sortKeysT (hc : X.calm = true) (hu : X.A.units + 64 < cLine) : CallR X (.builtin "sorted") rSortKeysT := by
  intro pins s σ H xs us Q I r h
  obtain ⟨p, d, kvs, ks, rfl, hp, hd, hk, hne, q⟩ := h
  rw [Vals.ref1 r]
  have view : PySem.W.KdlKeysView s.heap p d := (show ObjOk X.prog X.w H s.heap p (keysO p d) from I.hok p _ hp).1
  obtain ⟨z, hs, xs', rel, o, es, ep, ho, hx, hdat, he, _, hn⟩ := dt_of I.hok hd
  have l1 : es.size = xs'.length := size_of_entries he
  have l2 : kvs.length = xs'.length := Paired.length rel
  have its := kt_its rel hk
  have l3 : ks.length = xs'.length := by
    have e := its.length
    rw [List.length_map] at e
    exact e.symm
  refine PySem.Calls.call_function_entry PyProof.Rows.kind_sorted PyProof.Rows.plain_sorted PyProof.Rows.entry_sorted (PyProof.Rows.args_sorted1 _) ?_
  unfold Builtin.«sorted»
  refine wpAny_bind (m := checkCount "sorted" 1 1 _) (wpAny_pure ?_)
  refine wpAny_bind (PySem.W.kdu_collect (A := X.A.in1) (KdlSrc.rawKeys (r := p) (d := d) (es := es) (ep := ep)) (I.ok.hd hc) ⟨view, raw_of ho hx hdat⟩ (by omega) fun h' tk acc kp hacc => ?_)
  have ea := keys_acc rel he hacc
  rw [ea]
  refine wpAny_bind (wpAny_newList ?_ (by rw [List.length_map, List.length_map]; omega))
  generalize hus : (xs'.map fun x => x.2.1).map Value.ref = us2
  have I0 : Inv X pins σ H { s with heap := h', toks := tk } := I.kept (t' := tk) kp
  have hnone : H h'.objs.size = none := I0.hok.fresh (Nat.le_refl _)
  have hob : (h'.push { cls := .type "list", data := .seq us2.toArray }).get? h'.objs.size = some (seqObj "list" us2.toArray 0) := Heap.get?_push_size _ rfl
  have kb : ∀ b o, h'.get? b = some o → (h'.push { cls := .type "list", data := .seq us2.toArray }).get? b = some o := fun b o e => Heap.get?_push_of_some _ e
  have I1 : Inv X pins σ H { s with heap := h'.push { cls := .type "list", data := .seq us2.toArray }, toks := tk } := I0.kept (t' := tk) kb
  have e := each_of (H := H) hus.symm its
  refine wpAny_bind (wpAny_holding (PySem.W.list_sort_data (s := { s with heap := h'.push { cls := .type "list", data := .seq us2.toArray }, toks := tk }) (enc := encI) (R := fun v k => ∃ a, v = Value.ref a ∧ IT H a k) hob e ?_ (allAlike_encI ks) (sortable_encI hne) (by omega) (fun b _ => by rw [depth_encI]; show X.A.units + 1 + 1 + 1 < cLine; omega) fun out hlen ho2 => ?_))
  · refine (each_reads I1 e).mono fun v k ⟨as, r⟩ => ⟨as, r, ?_⟩
    rw [reads_encI r]
    exact List.not_mem_nil
  rw [dataLe_tups] at ho2
  obtain ⟨bs, e2, hb⟩ := of_each ho2
  obtain ⟨ep2, he'⟩ := PyProof.Rows.sortedHeap_at (vs := us2) (out := List.toArray out) hob
  have hlen2 : (bs.map V.ref).length ≤ sizeLine := by
    have q1 : out.length = bs.length := by rw [e2, List.length_map]
    rw [List.length_map, ← q1, hlen]
    omega
  have kF : ∀ b o, h'.get? b = some o → (PyProof.Rows.sortedHeap (h'.push { cls := .type "list", data := .seq us2.toArray }) h'.objs.size us2 (List.toArray out)).get? b = some o := fun b o eb => by
    have h1 := kb b o eb
    have nb : b ≠ h'.objs.size := Nat.ne_of_lt (Heap.lt_size eb)
    exact (PyProof.Rows.sortedHeap_old nb (Heap.lt_size h1)).trans h1
  refine wpAny_pure ⟨_, rfl, ?_⟩
  refine ⟨.ref h'.objs.size, upd H h'.objs.size (.lst (bs.map V.ref)), I0.laid (t' := tk) kF (Nat.le_refl _) ⟨hlen2, out, ep2, ?_, he'⟩, rfl, q _ bs hnone hb⟩
  rw [e2]
  exact vals_refs bs
end
end K4R
set_option Elab.async false
set_option linter.all false
set_option maxRecDepth 100000
set_option maxHeartbeats 4000000
namespace K4R
open PySem PySem.Spec PyProof.Rows L2
/-! for k in d.keys(), d locked -/
def iKeysMT (td : TE) : TI := fun σ H R => td σ H fun x H1 => ∃ d o kvs, x = .ref d ∧ H1 d = some (.frz o (.dT kvs)) ∧ R (Itkt d o kvs) H1
section
variable {X : Cx} {tg e : Expr} {td : TE} {apos cpos : Pos}
theorem pi_keysMT (he : PE X e td) (hbase : attributeBase e "keys" X.env (eval e X.env) = eval e X.env := by rfl) (hline : (apos.endLine == cpos.line) = true := by rfl) : PI X tg (.Call (.Attribute e "keys" apos) [] [] cpos) (iKeysMT td) := by
  refine ⟨fun pins s σ H R I h => ?_⟩
  refine wpAny_Call_method (T := "dict") (id := "dict.keys") hbase rfl hline F.plainAttrs_dict F.slot_dict_keys F.type_dict_keys (thn (he.run pins s σ H _ I h) fun u s1 ⟨x, H1, I1, rx, d, o, kvs, ex, hd, q⟩ => ?_)
  subst ex
  obtain rfl : u = Value.ref d := rx
  obtain ⟨hs, hgd, hx, es, ep, hdt, hsz, ent⟩ := I1.frzT hd
  have hraw : s1.heap.DictRaw d es ep := raw_of hgd hx hdt
  refine ⟨hraw.typeIs, (fun a ea => ⟨o, by cases ea; exact hgd, hx.2.1⟩), ?_⟩
  have I2 : Inv X pins σ H1 { s1 with heap := s1.heap.push { cls := .type "dict_keys", data := .fields #[.ref d] } } := I1.kept (t' := s1.toks) fun b ob q => Heap.get?_push_of_some _ q
  have fin : wpAny (model X.prog X.w) X.A (pyIter (.ref s1.heap.objs.size)) (PIE X pins σ tg R) X.xe { s1 with heap := s1.heap.push { cls := .type "dict_keys", data := .fields #[.ref d] } } := by
    refine wpAny_pyIter_keys_raw (d := d) ⟨_, Heap.get?_push_size _ rfl, rfl, rfl⟩ (hraw.push _) (pi_one (tk := s1.toks) I2 _ (turn_keysT _ hdt) ⟨_, Heap.get?_push_size _ rfl, rfl, ?_⟩ q)
    rw [hsz] <;> rfl
  show wpAny _ _ (callWith cpos (.builtin "dict.keys") [.ref d] [] []) _ X.xe s1
  exact method_meetsIn F.slot_dict_keys F.entry_dict_keys rfl (PySem.evalArgs_none ⟨rfl, hraw.typeIs, F.args_dict_keys_1 _, _, meets_dict_keys_raw d hs, ⟨es, ep, hraw⟩, fin⟩)
end
/-! dict(d) -/
section
variable {prog : Program} {w : World} {K : Type} [DecidableEq K] {knd : HeapKind prog w K} {A : Around} {E : Value → Shared → Prop} {s : Shared}
theorem call_dictH {o : Addr} {more : List (K × Addr × Value)} {Q : Value → Shared → Prop} (hu : knd.room A.in1.in1) (hoS : (o == sysModules) = false) (ho : s.heap.DictOfH knd o more) (hst : ∀ h' : Heap, (∀ b o, s.heap.get? b = some o → h'.get? b = some o) → h'.DictOfH knd o more)
    (hty : ∀ x ∈ more, s.TypeIs (.ref x.2.1) "tuple") (hap : (more.map fun x => knd.hash x.1).Nodup) (hsz : more.length ≤ sizeLine)
    (h : ∀ h' : Heap, h'.DictOfH knd s.heap.objs.size more → (∀ b o, s.heap.get? b = some o → h'.get? b = some o) → Q (.ref s.heap.objs.size) { s with heap := h' }) :
    wpAny (model prog w) A (call (.type "dict") [.ref o]) Q E s := by
  refine PySem.callType_codes (Q₁ := fun obj s₁ => obj = .ref s.heap.objs.size ∧ s₁ = { s with heap := s.heap.push { cls := .type "dict", data := .dict #[] } }) F.kt_called_dict (F.kt_typeCall_dict_1 _) F.entry_dict_init (kt_code_dict_new _ ⟨rfl, rfl⟩) ?_
  rintro obj s₁ ⟨rfl, rfl⟩
  have hT : Shared.TypeIs { s with heap := s.heap.push { cls := .type "dict", data := .dict #[] } } (.ref s.heap.objs.size) "dict" := ⟨_, Heap.get?_push_size _ rfl, rfl⟩
  have hdo : s.heap.objs.size ≠ o := by
    obtain ⟨_, _, _, hg, _⟩ := ho
    exact fun e => absurd (Heap.lt_size hg) (by rw [e]; exact Nat.lt_irrefl _)
  refine ⟨hT, F.args_dict_init_2 _ _, ?_⟩
  unfold Builtin.«dict.__init__»
  refine wpAny_bind ?_
  unfold Builtin.Dict.selfAndRest
  refine wpAny_bind (wpAny_notOrdered_dict hT ?_)
  show wpAny _ _ (pure (s.heap.objs.size, [Value.ref o])) _ _ _
  refine wpAny_pure ?_
  have kp : ∀ b o, s.heap.get? b = some o → (s.heap.push { cls := .type "dict", data := .dict #[] }).get? b = some o := fun b o e => Heap.get?_push_of_some _ e
  refine updateFrom_dictH (A := A.in1) (kvs := []) .none hu hdo hoS (Heap.DictOfH.new s.heap) (hst _ kp) (.inr ⟨fun x hx => ?_, hap⟩) (by simpa using hsz) fun h' hd' ho' hs' => ?_
  · obtain ⟨ob, hob, hc⟩ := hty x hx
    exact ⟨ob, kp _ _ hob, hc⟩
  · have hn : (more.map (·.1)).Nodup := ho.nodup
    rw [storedAllH_nil_of_nodup more hn] at hd'
    exact ⟨rfl, h h' hd' fun b o e => (hs'.2 b (Nat.ne_of_lt (Heap.lt_size e))).trans (kp b o e)⟩
end
theorem kt_keys {H : Hp} {kvs : List (List Key × V)} {xs : List (List Key × Addr × Value)} (rel : KT H kvs xs) : kvs.map (·.1) = xs.map (·.1) := by
  induction rel with
  | nil => rfl
  | cons h t ih => simp only [List.map_cons, h.1]; exact congrArg _ ih
/-- the hash of a tuple of ints -/
def hI (ns : List Int) : Int := reduceHash (Builtin.Tuple.tupleHashOf (ns.map hashInt))
theorem hI_eq (P : Program) (w : World) (ns : List Int) : (tupleKind (mixKind P w)).hash (kI ns) = hI ns := by
  show reduceHash (Builtin.Tuple.tupleHashOf ((ns.map Sum.inl).map (keyH w))) = _
  rw [List.map_map]
  rfl
theorem dt_laid {X : Cx} {pins : List (Addr × Obj)} {σ : L2.St} {H : Hp} {s : Shared} {h' : Heap} {tk : Nat} {q : Addr} {kvs : List (List Key × V)} {xs : List (List Key × Addr × Value)} (I : Inv X pins σ H s) (kp : ∀ b o, s.heap.get? b = some o → h'.get? b = some o)
    (hq : s.heap.objs.size ≤ q) (z : kvs.length ≤ sizeLine) (rel : KT H kvs xs) (dd : h'.DictOfH (tupleKind (mixKind X.prog X.w)) q xs) : Inv X pins σ (upd H q (.dT kvs)) { s with heap := h', toks := tk } := by
  obtain ⟨o, es, ep, ho, hx, hdat, he, his, hn⟩ := dd
  have hnone : H q = none := I.hok.fresh hq
  have hm : (q == sysModules) = false := beq_eq_false_iff_ne.mpr (Nat.ne_of_gt (Nat.lt_of_lt_of_le I.big hq))
  exact I.laid (t' := tk) kp hq ⟨z, hm, xs, rel.keeps fun c ys ec => by rw [upd_ne (ne_of_none ec hnone)]; exact ec, o, es, ep, ho, hx, hdat, he, hn⟩
section
variable {X : Cx}
def rDictT : List V → Hp → VK → Prop := fun vs H Q => ∃ (d : Addr) (kvs : List (List Key × V)) (ks : List (List Int)), vs = [.ref d] ∧ H d = some (.dT kvs) ∧ KeysI kvs ks ∧ (ks.map hI).Nodup ∧
  ∀ q, H q = none → Q (.ref q) (upd H q (.dT kvs))
theorem call_dictT (hu : X.A.units + 3 < cLine) : CallR X (.type "dict") rDictT := by
  intro pins s σ H xs us Q I r h
  obtain ⟨d, kvs, ks, rfl, hd, hk, hap, q⟩ := h
  rw [Vals.ref1 r]
  obtain ⟨z, hs, xs', rel, dd⟩ := dt_of I.hok hd
  have l2 : kvs.length = xs'.length := Paired.length rel
  have keys : xs'.map (·.1) = ks.map kI := by
    rw [← kt_keys rel]
    exact hk
  have hash : (xs'.map fun x => (tupleKind (mixKind X.prog X.w)).hash x.1) = ks.map hI := by
    have e1 : (xs'.map fun x => (tupleKind (mixKind X.prog X.w)).hash x.1) = (xs'.map (·.1)).map (tupleKind (mixKind X.prog X.w)).hash := by rw [List.map_map]; rfl
    rw [e1, keys, List.map_map]
    exact List.map_congr_left fun k _ => hI_eq X.prog X.w k
  have hty : ∀ x ∈ xs', s.TypeIs (.ref x.2.1) "tuple" := keyed_apart tupleKind_stays dd
  refine call_dictH (knd := tupleKind (mixKind X.prog X.w)) (by show X.A.units + 1 + 1 < cLine; omega) hs dd (fun h' kp => ?_) hty (by rw [hash]; exact hap) (by omega) fun h' dd' kp => ?_
  · exact (dt_of (I.kept (t' := s.toks) kp).hok hd).2.2.elim fun ys hy => by
      obtain ⟨rel2, dd2⟩ := hy
      obtain ⟨o, es, ep, ho, hx, hdat, he, his, hn⟩ := id dd
      exact ⟨o, es, ep, kp _ _ ho, hx, hdat, he, fun x hx2 => tupleKind_stays.stays (fun b ob _ _ eb _ => kp b ob eb) (his x hx2), hn⟩
  · exact ⟨.ref s.heap.objs.size, _, dt_laid (tk := s.toks) I kp (Nat.le_refl _) z rel dd', rfl, q _ (I.hok.fresh (Nat.le_refl _))⟩
/-- a pair (key, value) -/
def PairK (H : Hp) (p : Addr) (kv : List Int × V) : Prop := ∃ ka, H p = some (.tup [.ref ka, kv.2]) ∧ IT H ka kv.1
def rDictPT (K : PySem.W.Frag) : List V → Hp → VK → Prop := fun vs H Q => ∃ (a : Addr) (ps : List Addr) (kvs : List (List Int × V)), vs = [.ref a] ∧ SqL K H a (ps.map V.ref) ∧ Paired (PairK H) ps kvs ∧ (kvs.map (·.1)).Nodup ∧
  ∀ q, H q = none → Q (.ref q) (upd H q (.dT (kvs.map fun kv => (kI kv.1, kv.2))))
theorem kI_inj {a b : List Int} (h : kI a = kI b) : a = b := by
  unfold kI at h
  exact (List.map_inj_right (fun x y e => Sum.inl.inj e)).mp h
theorem nodup_map {α β : Type} {f : α → β} (hf : ∀ {a b : α}, f a = f b → a = b) : ∀ {l : List α}, l.Nodup → (l.map f).Nodup
  | [], _ => List.nodup_nil
  | a :: l, h => by
    rw [List.nodup_cons] at h
    rw [List.map_cons, List.nodup_cons]
    refine ⟨fun m => ?_, nodup_map hf h.2⟩
    obtain ⟨b, hb, e⟩ := List.mem_map.mp m
    rw [hf e] at hb
    exact h.1 hb
theorem kt_is {P : Program} {w : World} {H : Hp} {h : Heap} (ok : HOk P w H h) {l : List (List Key × V)} {m : List (List Key × Addr × Value)} (q : KT H l m) : ∀ x ∈ m, (tupleKind (mixKind P w)).is h x.1 x.2.1 := by
  induction q with
  | nil => intro x hx; exact nomatch hx
  | @cons p q ps qs hq t ih =>
    intro x hx
    rcases List.mem_cons.mp hx with e | hx
    · subst e
      exact key_of ok (by rw [← hq.1]; exact hq.2.1)
    · exact ih x hx
theorem tripT {pins : List (Addr × Obj)} {σ : L2.St} {H : Hp} {s : Shared} (I : Inv X pins σ H s) : ∀ {ps : List Addr} {kvs : List (List Int × V)}, Paired (PairK H) ps kvs →
    ∃ xs : List (List Key × Addr × Value), KT H (kvs.map fun kv => (kI kv.1, kv.2)) xs ∧ xs.length = ps.length ∧ ∀ (j : Nat) (x : List Key × Addr × Value), xs[j]? = some x → ∃ b, ps[j]? = some b ∧ s.heap.IsTuple b #[.ref x.2.1, x.2.2]
  | _, _, .nil => ⟨[], .nil, rfl, fun j q e => by simp at e⟩
  | _, _, .cons (a := p) (b := kv) h t => by
    obtain ⟨xs, r, hl, hp⟩ := tripT I t
    obtain ⟨ka, h1, h2⟩ := h
    obtain ⟨its, rv, ht, _⟩ := I.tuple (SqT.of (K := X.K) h1)
    obtain ⟨u, y, ei, ru, ry⟩ := vals2 rv
    subst ei
    have ru' : u = Value.ref ka := ru
    subst ru'
    refine ⟨(kI kv.1, ka, y) :: xs, .cons ⟨rfl, ?_, ry⟩ r, by rw [List.length_cons, List.length_cons, hl], fun j q e => ?_⟩
    · unfold IT at h2
      show H ka = some (.tup ((kI kv.1).map kV))
      rw [h2, kI_kV]
    · cases j with
      | zero =>
        have e' : (kI kv.1, ka, y) = q := Option.some.inj e
        subst e'
        exact ⟨p, rfl, ht⟩
      | succ j =>
        obtain ⟨b, e1, e2⟩ := hp j q (by simpa using e)
        exact ⟨b, by simpa using e1, e2⟩
theorem call_dictPT (hc : X.calm = true) (hu : X.A.units + 3 < cLine) : CallR X (.type "dict") (rDictPT X.K) := by
  intro pins s σ H xs us Q I r h
  obtain ⟨a, ps, kvs, rfl, hq, hp, hn, q⟩ := h
  rw [Vals.ref1 r]
  obtain ⟨its, rv, pl, hz⟩ := I.list hq
  have ei := refs_of rv
  subst ei
  rw [List.length_map] at hz
  obtain ⟨xs, rel, hl, hx⟩ := tripT I hp
  have l2 : kvs.length = xs.length := by
    have e := Paired.length rel
    rw [List.length_map] at e
    exact e
  have nd : (xs.map (·.1)).Nodup := by
    rw [← kt_keys rel, List.map_map]
    have e : (kvs.map ((fun p : List Key × V => p.1) ∘ fun kv : List Int × V => (kI kv.1, kv.2))) = (kvs.map (·.1)).map kI := by rw [List.map_map]; rfl
    rw [e]
    exact nodup_map kI_inj hn
  obtain ⟨o, n, ho, hcl, hd, hdat⟩ := pl
  have P := PairArg.list (prog := X.prog) (w := X.w) a (ps.map Value.ref).toArray (fun j => ps.getD j 0) (xs.map fun x => (Value.ref x.2.1, x.2.2))
  have ok : PlainSeq "list" s.heap a (ps.map Value.ref).toArray ∧ PairItems s.heap (ps.map Value.ref).toArray (fun j => ps.getD j 0) (xs.map fun x => (Value.ref x.2.1, x.2.2)) := by
    refine ⟨⟨o, n, ho, hcl, hd, hdat⟩, by simp [hl], fun j k v hj => ?_⟩
    rw [List.getElem?_map] at hj
    cases ej : xs[j]? with
    | none =>
      rw [ej] at hj
      cases hj
    | some x =>
      rw [ej] at hj
      have e1 : (Value.ref x.2.1, x.2.2) = (k, v) := Option.some.inj hj
      cases e1
      obtain ⟨b, eb, ht⟩ := hx j x ej
      have eg : ps.getD j 0 = b := by rw [List.getD_eq_getElem?_getD, eb]; rfl
      show (List.map Value.ref ps).toArray[j]? = some (Value.ref (ps.getD j 0)) ∧ PairAt s.heap (ps.getD j 0) (Value.ref x.2.1) x.2.2
      rw [eg]
      exact ⟨by simp [eb], .inl ht⟩
  refine call_dict_pairsH (knd := tupleKind (mixKind X.prog X.w)) (ps := xs) P (I.ok.hd hc) (by show X.A.units + 1 + 1 < cLine; omega) ok ⟨by rw [List.length_map], fun i key v hv => ?_⟩ (fun h' kp x hx2 => ?_) (by rw [List.length_map]; omega) fun h' tk dd kp => ?_
  · have hv : (xs.map fun x => (Value.ref x.2.1, x.2.2))[i]? = some (key, v) := hv
    rw [List.getElem?_map] at hv
    cases ej : xs[i]? with
    | none =>
      rw [ej] at hv
      cases hv
    | some x =>
      rw [ej] at hv
      have e1 : (Value.ref x.2.1, x.2.2) = (key, v) := Option.some.inj hv
      cases e1
      exact ⟨x.1, x.2.1, rfl, rfl⟩
  · exact tupleKind_stays.stays (fun b ob _ _ eb _ => kp b ob (Nat.ne_of_lt (Heap.lt_size eb)) (fun z => nomatch z) eb) (kt_is I.hok rel x hx2)
  · rw [storedAllH_nil_of_nodup xs nd] at dd
    have kp2 : ∀ b o, s.heap.get? b = some o → h'.get? b = some o := fun b o e => kp b o (fun z => nomatch z) e
    exact ⟨.ref s.heap.objs.size, _, dt_laid (tk := tk) I kp2 (Nat.le_refl _) (by rw [List.length_map]; omega) rel dd, rfl, q _ (I.hok.fresh (Nat.le_refl _))⟩
/-! d != {} -/
end
section
variable {prog : Program} {w : World} {A : Around} {E : Value → Shared → Prop} {s : Shared}
theorem same_raw0 {nm : String} {a b : Addr} {es : Array DictEntry} {ep ep' : Nat} {Q : Bool → Shared → Prop} (ha : (a == sysModules) = false) (hb : (b == sysModules) = false)
    (da : s.heap.DictRaw a es ep) (db : s.heap.DictRaw b #[] ep') (h : Q (decide (es.size = 0)) s) : wpAny (model prog w) A (Builtin.Dict.samePairs nm a b) Q E s := by
  obtain ⟨oa, hoa, _, hda⟩ := da
  obtain ⟨ob, hob, _, hdb⟩ := db
  unfold Builtin.Dict.samePairs Builtin.Dict.showsAll
  rw [if_neg (show ¬ (a == sysModules) = true by rw [ha]; exact Bool.false_ne_true), if_neg (show ¬ (b == sysModules) = true by rw [hb]; exact Bool.false_ne_true)]
  refine wpAny_bind (wpAny_pure (wpAny_bind (wpAny_pure ?_)))
  refine wpAny_bind (wpAny_dictEntries hoa hda ?_)
  dsimp only
  refine wpAny_bind (wpAny_dictEntries hob hdb ?_)
  by_cases hsz : es.size = 0
  case neg =>
    rw [if_pos (by simpa using hsz)]
    rw [decide_eq_false hsz] at h
    exact wpAny_bind (wpAny_rule (wpAny_pure h))
  case pos =>
    rw [decide_eq_true hsz] at h
    rw [if_neg (by rw [hsz]; simp)]
    refine wpAny_bind (wpAny_dictEpoch hoa hda ?_)
    rw [hsz]
    refine wpAny_bind ?_
    rw [Std.Legacy.Range.forIn_eq_forIn_range']
    simp only [Std.Legacy.Range.size, Nat.sub_zero, Nat.zero_add, Nat.sub_self, Nat.add_sub_cancel, Nat.div_one, List.range'_zero, List.forIn_nil]
    exact wpAny_pure (wpAny_pure h)
theorem ne_raw0 {a b : Addr} {es : Array DictEntry} {ep ep' : Nat} {Q : Value → Shared → Prop} (ha : (a == sysModules) = false) (hb : (b == sysModules) = false)
    (da : s.heap.DictRaw a es ep) (db : s.heap.DictRaw b #[] ep') (hu : A.units < cLine) (h : Q (.bool (!decide (es.size = 0))) s) :
    wpAny (model prog w) A (compareOp .NotEq (.ref a) (.ref b)) Q E s := by
  refine wpAny_richCompare_same_room (op := .NotEq) da.typeIs db.typeIs PySem.F.slot_dict_ne (wpAny_call_entry PySem.F.slot_dict_ne da.typeIs PySem.F.entry_dict_ne ?_ (PySem.F.args_dict_ne_2 _ _)) hu
  show wpAny _ _ (Builtin.Dict.dictSlotArgs "__ne__" ⟨[.ref a, .ref b], []⟩ >>= _) _ _ s
  refine wpAny_bind ?_
  unfold Builtin.Dict.dictSlotArgs
  refine wpAny_bind (wpAny_notOrdered_dict da.typeIs ?_)
  show wpAny _ _ (pure (Value.ref a, Value.ref b)) _ _ s
  refine wpAny_pure ?_
  refine wpAny_bind (wpAny_isInstance (T := "dict") db.typeIs PySem.F.sub_dict_dict ?_)
  simp only [Bool.not_true, Bool.false_eq_true, if_false]
  refine wpAny_bind (wpAny_pure (wpAny_bind (wpAny_pure ?_)))
  refine wpAny_bind (same_raw0 ha hb da db ?_)
  refine wpAny_pure ⟨_, rfl, ?_, ?_⟩
  · exact fun x => nomatch x
  · simpa using h
end
section
variable {X : Cx}
def rNeT0 : R2 := fun x y H Q => ∃ (a b : Addr) (kvs : List (List Key × V)), x = .ref a ∧ y = .ref b ∧ H a = some (.dT kvs) ∧ H b = some (.dT []) ∧ Q (.bl (!decide (kvs = []))) H
theorem op_neT0 (hu : X.A.units < cLine) : OpR X (compareOp .NotEq) rNeT0 := by
  intro pins s σ H x y v u Q I rx ry h
  obtain ⟨a, b, kvs, rfl, rfl, ea, eb, q⟩ := h
  obtain rfl : v = Value.ref a := rx
  obtain rfl : u = Value.ref b := ry
  obtain ⟨za, ha, xs, rel, o, es, ep, ho, hx, hdat, he, his, hn⟩ := dt_of I.hok ea
  obtain ⟨zb, hb, xs2, rel2, o2, es2, ep2, ho2, hx2, hdat2, he2, his2, hn2⟩ := dt_of I.hok eb
  have l1 : es.size = xs.length := size_of_entries he
  have l2 : kvs.length = xs.length := Paired.length rel
  have l3 : es2.size = xs2.length := size_of_entries he2
  have l4 : 0 = xs2.length := Paired.length rel2
  have e0 : es2 = #[] := Array.eq_empty_of_size_eq_zero (by omega)
  subst e0
  refine ne_raw0 ha hb (raw_of ho hx hdat) (raw_of ho2 hx2 hdat2) hu (fin_bl I q ?_)
  by_cases hk : kvs = []
  · subst hk
    have hs0 : es.size = 0 := by rw [l1, ← l2]; rfl
    rw [decide_eq_true rfl, decide_eq_true hs0]
  · have hs0 : ¬ es.size = 0 := fun z => hk (List.length_eq_zero_iff.mp (by omega))
    rw [decide_eq_false hk, decide_eq_false hs0]
end
end K4R
set_option Elab.async false
set_option linter.all false
set_option maxRecDepth 100000
set_option maxHeartbeats 4000000
namespace K4R
open PySem PySem.Spec PyProof.Rows L2
section
variable {X : Cx} {C : Addr} {bmB : List Value} {B newId initId : String}
/-- X(), X an own exception class without own __init__ -/
theorem pmk_own0 {x : Str} {p pos : Pos} (F : ExcBaseFacts B newId initId bmB) (q : PySem.W.excIn X.K C bmB newId = true) (gC : X.mg x = some (.ref C)) (kC : PySem.W.keepIn X.K (.ref C) = true) (r : Raises X (.ref C)) (hg : Gl X x)
    (hdb : (x == ("__debug__" : Str)) = false := by decide) : PMk X (.Call (.Name x p) [] [] pos) (fun _ H Q => Q (.ref C) none H) := by
  intro pins s σ H Q I h
  refine wpAny_Call_Name_kw (ld_glob I hg gC ?_ hdb)
  refine PySem.W.callWith_K0 I.kIn kC ?_
  show wpAny _ _ (call (.ref C) []) _ _ _
  obtain ⟨bm, N, nm, qn, bs, hdct, sn, sub, ab, col, dd, k0, k1, k2, k3, k5, mN, hC, hN, hni, T⟩ := exc_obj I.kIn q
  refine wpAny_call_exc_subT F T hC hN hni (fun h' e hm => ?_) (Nat.zero_le _)
  exact mk_of I hm r h (I.hok.gone hm.new)
end
end K4R
set_option Elab.async false
set_option linter.all false
set_option maxRecDepth 100000
set_option maxHeartbeats 4000000
/-! the defs of this program: scopes, what the top leaves, promises by name -/
namespace K4
open PySem PySem.Spec PyProof.Rows L2 K4R
def top (i : Nat) : Stmt := PySem.Challenge.pw_pairbooks_k04_whole_ways_to_rest.main.body.getD i (.Pass ⟨0, 0, 0, 0⟩)
abbrev s_is_in : Stmt := top 8
abbrev N_is_in : List Str := ["value", "least", "most"]
theorem sc_is_in : FnScope N_is_in ["value", "least", "most"] (defScope s_is_in) := ⟨rfl, rfl, rfl, by decide +kernel, rfl, by decide +kernel, by decide +kernel⟩
abbrev s_gcd : Stmt := top 9
abbrev N_gcd : List Str := ["one", "other"]
theorem sc_gcd : FnScope N_gcd ["one", "other"] (defScope s_gcd) := ⟨rfl, rfl, rfl, by decide +kernel, rfl, by decide +kernel, by decide +kernel⟩
abbrev s_reduced : Stmt := top 10
abbrev N_reduced : List Str := ["numerator", "denominator", "common"]
theorem sc_reduced : FnScope N_reduced ["numerator", "denominator"] (defScope s_reduced) := ⟨rfl, rfl, rfl, by decide +kernel, rfl, by decide +kernel, by decide +kernel⟩
abbrev s_plus : Stmt := top 11
abbrev N_plus : List Str := ["one", "other"]
theorem sc_plus : FnScope N_plus ["one", "other"] (defScope s_plus) := ⟨rfl, rfl, rfl, by decide +kernel, rfl, by decide +kernel, by decide +kernel⟩
abbrev s_times : Stmt := top 12
abbrev N_times : List Str := ["one", "other"]
theorem sc_times : FnScope N_times ["one", "other"] (defScope s_times) := ⟨rfl, rfl, rfl, by decide +kernel, rfl, by decide +kernel, by decide +kernel⟩
abbrev s_is_rule : Stmt := top 16
abbrev N_is_rule : List Str := ["value", "many", "one"]
theorem sc_is_rule : FnScope N_is_rule ["value", "many"] (defScope s_is_rule) := ⟨rfl, rfl, rfl, by decide +kernel, rfl, by decide +kernel, by decide +kernel⟩
abbrev s_need_table : Stmt := top 17
abbrev N_need_table : List Str := ["table", "index", "one"]
theorem sc_need_table : FnScope N_need_table ["table"] (defScope s_need_table) := ⟨rfl, rfl, rfl, by decide +kernel, rfl, by decide +kernel, by decide +kernel⟩
abbrev s_results_in : Stmt := top 18
abbrev N_results_in : List Str := ["table", "pair", "found", "a", "b", "c", "d"]
theorem sc_results_in : FnScope N_results_in ["table", "pair"] (defScope s_results_in) := ⟨rfl, rfl, rfl, by decide +kernel, rfl, by decide +kernel, by decide +kernel⟩
abbrev s_is_edge : Stmt := top 21
abbrev N_is_edge : List Str := ["value", "many", "one"]
theorem sc_is_edge : FnScope N_is_edge ["value", "many"] (defScope s_is_edge) := ⟨rfl, rfl, rfl, by decide +kernel, rfl, by decide +kernel, by decide +kernel⟩
abbrev s_need_web : Stmt := top 22
abbrev N_need_web : List Str := ["web", "index", "one"]
theorem sc_need_web : FnScope N_need_web ["web"] (defScope s_need_web) := ⟨rfl, rfl, rfl, by decide +kernel, rfl, by decide +kernel, by decide +kernel⟩
abbrev s_need_kinds : Stmt := top 23
abbrev N_need_kinds : List Str := ["table", "many", "kinds", "index", "one"]
theorem sc_need_kinds : FnScope N_need_kinds ["table", "many", "kinds"] (defScope s_need_kinds) := ⟨rfl, rfl, rfl, by decide +kernel, rfl, by decide +kernel, by decide +kernel⟩
abbrev s_need_start : Stmt := top 24
abbrev N_need_start : List Str := ["table", "web", "kinds"]
theorem sc_need_start : FnScope N_need_start ["table", "web", "kinds"] (defScope s_need_start) := ⟨rfl, rfl, rfl, by decide +kernel, rfl, by decide +kernel, by decide +kernel⟩
abbrev s_moves_in : Stmt := top 25
abbrev N_moves_in : List Str := ["table", "web", "kinds", "found", "edge", "pair"]
theorem sc_moves_in : FnScope N_moves_in ["table", "web", "kinds"] (defScope s_moves_in) := ⟨rfl, rfl, rfl, by decide +kernel, rfl, by decide +kernel, by decide +kernel⟩
abbrev s_moved : Stmt := top 26
abbrev N_moved : List Str := ["kinds", "move", "found", "place", "kind"]
theorem sc_moved : FnScope N_moved ["kinds", "move"] (defScope s_moved) := ⟨rfl, rfl, rfl, by decide +kernel, rfl, by decide +kernel, by decide +kernel⟩
abbrev s_come_in : Stmt := top 29
abbrev N_come_in : List Str := ["table", "web", "kinds", "found", "rows", "here", "move"]
theorem sc_come_in : FnScope N_come_in ["table", "web", "kinds"] (defScope s_come_in) := ⟨rfl, rfl, rfl, by decide +kernel, rfl, by decide +kernel, by decide +kernel⟩
abbrev s_order_in : Stmt := top 30
abbrev N_order_in : List Str := ["told", "found", "left", "ends", "here", "there"]
theorem sc_order_in : FnScope N_order_in ["told"] (defScope s_order_in) := ⟨rfl, rfl, rfl, by decide +kernel, rfl, by decide +kernel, by decide +kernel⟩
abbrev s_walk_in : Stmt := top 31
abbrev N_walk_in : List Str := ["table", "web", "kinds", "told", "order"]
theorem sc_walk_in : FnScope N_walk_in ["table", "web", "kinds"] (defScope s_walk_in) := ⟨rfl, rfl, rfl, by decide +kernel, rfl, by decide +kernel, by decide +kernel⟩
abbrev s_longest : Stmt := top 32
abbrev N_longest : List Str := ["table", "web", "kinds", "told", "order", "found", "here", "there"]
theorem sc_longest : FnScope N_longest ["table", "web", "kinds"] (defScope s_longest) := ⟨rfl, rfl, rfl, by decide +kernel, rfl, by decide +kernel, by decide +kernel⟩
abbrev s_shortest : Stmt := top 33
abbrev N_shortest : List Str := ["table", "web", "kinds", "told", "order", "found", "here", "there"]
theorem sc_shortest : FnScope N_shortest ["table", "web", "kinds"] (defScope s_shortest) := ⟨rfl, rfl, rfl, by decide +kernel, rfl, by decide +kernel, by decide +kernel⟩
abbrev s_run_count : Stmt := top 34
abbrev N_run_count : List Str := ["table", "web", "kinds", "told", "order", "found", "here", "there"]
theorem sc_run_count : FnScope N_run_count ["table", "web", "kinds"] (defScope s_run_count) := ⟨rfl, rfl, rfl, by decide +kernel, rfl, by decide +kernel, by decide +kernel⟩
abbrev s_mean_moves : Stmt := top 35
abbrev N_mean_moves : List Str := ["table", "web", "kinds", "told", "order", "found", "here", "mean", "there"]
theorem sc_mean_moves : FnScope N_mean_moves ["table", "web", "kinds"] (defScope s_mean_moves) := ⟨rfl, rfl, rfl, by decide +kernel, rfl, by decide +kernel, by decide +kernel⟩
abbrev s_law_taken : Stmt := top 37
abbrev N_law_taken : List Str := ["_law_row", "_law_many", "_law_found", "_law_cell"]
theorem sc_law_taken : FnScope N_law_taken ["_law_row", "_law_many"] (defScope s_law_taken) := ⟨rfl, rfl, rfl, by decide +kernel, rfl, by decide +kernel, by decide +kernel⟩
abbrev s_law_pick : Stmt := top 38
abbrev N_law_pick : List Str := ["_law_row", "_law_things"]
theorem sc_law_pick : FnScope N_law_pick ["_law_row", "_law_things"] (defScope s_law_pick) := ⟨rfl, rfl, rfl, by decide +kernel, rfl, by decide +kernel, by decide +kernel⟩
abbrev s_law_order : Stmt := top 39
abbrev N_law_order : List Str := ["_law_row", "_law_many", "_law_left", "_law_found", "_law_turn", "_law_at"]
theorem sc_law_order : FnScope N_law_order ["_law_row", "_law_many"] (defScope s_law_order) := ⟨rfl, rfl, rfl, by decide +kernel, rfl, by decide +kernel, by decide +kernel⟩
abbrev s_law_rule : Stmt := top 40
abbrev N_law_rule : List Str := ["_law_pair", "_law_other", "_law_one", "_law_two"]
theorem sc_law_rule : FnScope N_law_rule ["_law_pair", "_law_other"] (defScope s_law_rule) := ⟨rfl, rfl, rfl, by decide +kernel, rfl, by decide +kernel, by decide +kernel⟩
abbrev s_law_table : Stmt := top 41
abbrev N_law_table : List Str := ["_law_row", "_law_most", "_law_many", "_law_way", "_law_rules", "_law_order_here", "_law_turn", "_law_pair", "_law_other", "_law_top", "_law_rule_here"]
theorem sc_law_table : FnScope N_law_table ["_law_row", "_law_most"] (defScope s_law_table) := ⟨rfl, rfl, rfl, by decide +kernel, rfl, by decide +kernel, by decide +kernel⟩
abbrev s_law_falling : Stmt := top 42
abbrev N_law_falling : List Str := ["_law_row", "_law_most", "_law_many", "_law_rules", "_law_order_here", "_law_way", "_law_turn", "_law_pair", "_law_other", "_law_low"]
theorem sc_law_falling : FnScope N_law_falling ["_law_row", "_law_most"] (defScope s_law_falling) := ⟨rfl, rfl, rfl, by decide +kernel, rfl, by decide +kernel, by decide +kernel⟩
abbrev s_law_web : Stmt := top 43
abbrev N_law_web : List Str := ["_law_row", "_law_most", "_law_many", "_law_way", "_law_edges", "_law_k", "_law_j"]
theorem sc_law_web : FnScope N_law_web ["_law_row", "_law_most"] (defScope s_law_web) := ⟨rfl, rfl, rfl, by decide +kernel, rfl, by decide +kernel, by decide +kernel⟩
abbrev s_law_kinds : Stmt := top 44
abbrev N_law_kinds : List Str := ["_law_row", "_law_many", "_law_kinds_here", "_law_k"]
theorem sc_law_kinds : FnScope N_law_kinds ["_law_row", "_law_many", "_law_kinds_here"] (defScope s_law_kinds) := ⟨rfl, rfl, rfl, by decide +kernel, rfl, by decide +kernel, by decide +kernel⟩
abbrev s_law_results : Stmt := top 45
abbrev N_law_results : List Str := ["_law_table_here", "_law_pair", "_law_found", "_law_a", "_law_b", "_law_c", "_law_d"]
theorem sc_law_results : FnScope N_law_results ["_law_table_here", "_law_pair"] (defScope s_law_results) := ⟨rfl, rfl, rfl, by decide +kernel, rfl, by decide +kernel, by decide +kernel⟩
abbrev s_law_moves : Stmt := top 46
abbrev N_law_moves : List Str := ["_law_table_here", "_law_web_here", "_law_start", "_law_found", "_law_a", "_law_b", "_law_pair", "_law_there", "_law_k"]
theorem sc_law_moves : FnScope N_law_moves ["_law_table_here", "_law_web_here", "_law_start"] (defScope s_law_moves) := ⟨rfl, rfl, rfl, by decide +kernel, rfl, by decide +kernel, by decide +kernel⟩
abbrev s_law_walk : Stmt := top 47
abbrev N_law_walk : List Str := ["_law_table_here", "_law_web_here", "_law_start", "_law_found", "_law_rows", "_law_here", "_law_move", "_law_there"]
theorem sc_law_walk : FnScope N_law_walk ["_law_table_here", "_law_web_here", "_law_start"] (defScope s_law_walk) := ⟨rfl, rfl, rfl, by decide +kernel, rfl, by decide +kernel, by decide +kernel⟩
abbrev s_law_layers : Stmt := top 48
abbrev N_law_layers : List Str := ["_law_told", "_law_found", "_law_left", "_law_calm", "_law_here", "_law_there"]
theorem sc_law_layers : FnScope N_law_layers ["_law_told"] (defScope s_law_layers) := ⟨rfl, rfl, rfl, by decide +kernel, rfl, by decide +kernel, by decide +kernel⟩
abbrev s_law_gcd : Stmt := top 49
abbrev N_law_gcd : List Str := ["_law_one", "_law_other"]
theorem sc_law_gcd : FnScope N_law_gcd ["_law_one", "_law_other"] (defScope s_law_gcd) := ⟨rfl, rfl, rfl, by decide +kernel, rfl, by decide +kernel, by decide +kernel⟩
abbrev s_law_ratio : Stmt := top 50
abbrev N_law_ratio : List Str := ["_law_numerator", "_law_denominator", "_law_common"]
theorem sc_law_ratio : FnScope N_law_ratio ["_law_numerator", "_law_denominator"] (defScope s_law_ratio) := ⟨rfl, rfl, rfl, by decide +kernel, rfl, by decide +kernel, by decide +kernel⟩
abbrev s_law_plus : Stmt := top 51
abbrev N_law_plus : List Str := ["_law_one", "_law_other"]
theorem sc_law_plus : FnScope N_law_plus ["_law_one", "_law_other"] (defScope s_law_plus) := ⟨rfl, rfl, rfl, by decide +kernel, rfl, by decide +kernel, by decide +kernel⟩
abbrev s_law_alike : Stmt := top 52
abbrev N_law_alike : List Str := ["_law_found", "_law_due", "_law_k"]
theorem sc_law_alike : FnScope N_law_alike ["_law_found", "_law_due"] (defScope s_law_alike) := ⟨rfl, rfl, rfl, by decide +kernel, rfl, by decide +kernel, by decide +kernel⟩
abbrev s_law : Stmt := top 53
abbrev N_law : List Str := ["_law_script", "_law_row", "_law_table_here", "_law_web_here", "_law_told", "_law_start", "_law_walk_here", "_law_order_here", "_law_due", "_law_known", "_law_here", "_law_some", "_law_mean", "_law_one", "_law_long", "_law_short", "error", "_law_there"]
theorem sc_law : FnScope N_law ["_law_script"] (defScope s_law) := ⟨rfl, rfl, rfl, by decide +kernel, rfl, by decide +kernel, by decide +kernel⟩
/-- the def x as the top leaves it -/
def DefAt (K : PySem.W.Frag) (mg : Str → Option Value) (x : Str) (st : Stmt) : Prop :=
  ∃ f fd, FunD K x x (defArgs st) (defBody st) (defScope st) [] [] f fd ∧ mg x = some (.ref f)
/-- the promise of the def x -/
def FnAt (P : Program) (w : World) (K : PySem.W.Frag) (mg : Str → Option Value) (base : Heap) (CX : CXT) (k : Nat) (x : Str) (ps : List Str) (sp : Sp) : Prop :=
  ∃ f fd, FnOk P w K mg base CX k f fd ps sp ∧ mg x = some (.ref f) ∧ PySem.W.keepIn K (.ref f) = true ∧ Binds K fd ps [] ∧ ∃ (oc : Value) (od : Option Addr) (osl : Array (Option Value)), K.lookup f = some ⟨oc, od, .func fd, osl⟩
/-- an own exception class without __init__, by its name -/
def ExcAt (K : PySem.W.Frag) (mg : Str → Option Value) (x : Str) : Prop := ∃ C bm, mg x = some (.ref C) ∧ PySem.W.excIn K C bm "ValueError.__new__" = true ∧ PySem.W.keepIn K (.ref C) = true
structure Txt (K : PySem.W.Frag) (mg : Str → Option Value) : Prop where
  b_abs : mg "abs" = none
  b_bool : mg "bool" = none
  b_dict : mg "dict" = none
  b_enumerate : mg "enumerate" = none
  b_int : mg "int" = none
  b_isinstance : mg "isinstance" = none
  b_len : mg "len" = none
  b_list : mg "list" = none
  b_max : mg "max" = none
  b_min : mg "min" = none
  b_range : mg "range" = none
  b_sorted : mg "sorted" = none
  b_str : mg "str" = none
  b_sum : mg "sum" = none
  b_tuple : mg "tuple" = none
  b_zip : mg "zip" = none
  c_MOST_KINDS : ∃ t, mg "MOST_KINDS" = some (.int 5 t)
  c_MOST_RULES : ∃ t, mg "MOST_RULES" = some (.int 20 t)
  c_MOST_PLACES : ∃ t, mg "MOST_PLACES" = some (.int 8 t)
  c_MOST_WALKED : ∃ t, mg "MOST_WALKED" = some (.int 2000 t)
  d_is_in : DefAt K mg "is_in" s_is_in
  d_gcd : DefAt K mg "gcd" s_gcd
  d_reduced : DefAt K mg "reduced" s_reduced
  d_plus : DefAt K mg "plus" s_plus
  d_times : DefAt K mg "times" s_times
  d_is_rule : DefAt K mg "is_rule" s_is_rule
  d_need_table : DefAt K mg "need_table" s_need_table
  d_results_in : DefAt K mg "results_in" s_results_in
  d_is_edge : DefAt K mg "is_edge" s_is_edge
  d_need_web : DefAt K mg "need_web" s_need_web
  d_need_kinds : DefAt K mg "need_kinds" s_need_kinds
  d_need_start : DefAt K mg "need_start" s_need_start
  d_moves_in : DefAt K mg "moves_in" s_moves_in
  d_moved : DefAt K mg "moved" s_moved
  d_come_in : DefAt K mg "come_in" s_come_in
  d_order_in : DefAt K mg "order_in" s_order_in
  d_walk_in : DefAt K mg "walk_in" s_walk_in
  d_longest : DefAt K mg "longest" s_longest
  d_shortest : DefAt K mg "shortest" s_shortest
  d_run_count : DefAt K mg "run_count" s_run_count
  d_mean_moves : DefAt K mg "mean_moves" s_mean_moves
  d_law_taken : DefAt K mg "_law_taken" s_law_taken
  d_law_pick : DefAt K mg "_law_pick" s_law_pick
  d_law_order : DefAt K mg "_law_order" s_law_order
  d_law_rule : DefAt K mg "_law_rule" s_law_rule
  d_law_table : DefAt K mg "_law_table" s_law_table
  d_law_falling : DefAt K mg "_law_falling" s_law_falling
  d_law_web : DefAt K mg "_law_web" s_law_web
  d_law_kinds : DefAt K mg "_law_kinds" s_law_kinds
  d_law_results : DefAt K mg "_law_results" s_law_results
  d_law_moves : DefAt K mg "_law_moves" s_law_moves
  d_law_walk : DefAt K mg "_law_walk" s_law_walk
  d_law_layers : DefAt K mg "_law_layers" s_law_layers
  d_law_gcd : DefAt K mg "_law_gcd" s_law_gcd
  d_law_ratio : DefAt K mg "_law_ratio" s_law_ratio
  d_law_plus : DefAt K mg "_law_plus" s_law_plus
  d_law_alike : DefAt K mg "_law_alike" s_law_alike
  d_law : DefAt K mg "law" s_law
section
variable {P : Program} {w : World} {K : PySem.W.Frag} {mg : Str → Option Value} {base : Heap} {CX : CXT} {k j : Nat} {x : Str} {st : Stmt} {N ps : List Str} {sp sp' : Sp}
theorem FnAt.mono (F : FnAt P w K mg base CX j x ps sp) (h : j ≤ k) : FnAt P w K mg base CX k x ps sp := let ⟨f, fd, F, r⟩ := F; ⟨f, fd, F.mono h, r⟩
theorem FnAt.imp (F : FnAt P w K mg base CX k x ps sp) (h : ∀ vs H Q E, sp' vs H Q E → sp vs H Q E) : FnAt P w K mg base CX k x ps sp' := let ⟨f, fd, F, r⟩ := F; ⟨f, fd, F.imp h, r⟩
theorem fn_body (D : DefAt K mg x st) (S : FnScope N ps (defScope st))
    (hb : ∀ (kV doc pm : Value) (an : Option Addr) (cdv ct : Value) (us : List Value), us.length = ps.length → bindArgs (PySem.W.fnOf x x (defArgs st) (defBody st) (defScope st) .none kV doc pm an cdv ct) ⟨us, []⟩ = pure (ps.zip us))
    (len : ∀ vs H Q E, sp vs H Q E → vs.length = ps.length)
    (hbody : ∀ (f : Addr) (cdv : Value) (A : Around) (outer : List Env) (s : Shared) (H : Hp) (vs : List V) (Q : VK) (E : XK), Room k (A.deeper (envOfC x (defScope st) s.heap.objs.size f cdv)) → sp vs H Q E →
      ∃ t, PSs (cxOf CX P w K mg base N x (defScope st) f cdv A outer s H E) (defBody st) t ∧ t { nx := fun _ H' => Q .non H', rt := Q } (start N vs) H) : FnAt P w K mg base CX (k + 1) x ps sp := by
  obtain ⟨f, fd, F, m⟩ := D
  obtain ⟨oc, od, dV, kV, doc, pm, an, cdv, ct, osl, e, lk, _⟩ := id F.ex
  exact ⟨f, fd, F.ok S len fun cdv A outer s H vs Q E hr h => hbody f cdv A outer s H vs Q E hr h, m, F.kp, F.bindsN hb, oc, od, osl, lk⟩
end
section
variable {X : Cx} {CX : CXT} {k : Nat} {x : Str} {ps : List Str} {sp : Sp} {E : XK} {ES : L2.St → XK} {p pos : Pos} {e : Expr} {es : List Expr} {t : TA}
def tCallF (sp : Sp) (E : XK) (t : TA) : TE := fun σ H Q => t σ H fun vs H1 => sp vs H1 Q E
theorem pe_cf (F : FnAt X.prog X.w X.K X.mg X.base CX k x ps sp) (hr : Room k X.A) (hg : Gl X x) (hx : Passes CX X E) (ha : PA X (e :: es) t) (hdb : (x == ("__debug__" : Str)) = false := by decide)
    (he : starEach (e :: es) X.env = (false, eval e X.env) :: starEach es X.env := by rfl) (hpl : (backTo pos (starEach es X.env)).any (·.1) = false := by rfl) :
    PE X (.Call (.Name x p) (e :: es) [] pos) (tCallF sp E t) := by
  obtain ⟨f, fd, F, m, kp, b, _⟩ := F
  have q : PE X (.Call (.Name x p) (e :: es) [] pos) (tCall sp [] E t) := pe_call (dvs := []) (ds := []) F hr hg m kp b .nil hx ha hdb he hpl
  have e : tCall sp [] E t = tCallF sp E t := by
    funext σ H Q
    unfold tCall tCallF
    congr
    funext vs H1
    rw [List.append_nil]
  exact e ▸ q
theorem pe_cfS (F : FnAt X.prog X.w X.K X.mg X.base CX k x ps sp) (hr : Room k X.A) (hg : Gl X x) (hx : ∀ σ, PassesAt CX X σ (ES σ)) (ha : PA X (e :: es) t) (hdb : (x == ("__debug__" : Str)) = false := by decide)
    (he : starEach (e :: es) X.env = (false, eval e X.env) :: starEach es X.env := by rfl) (hpl : (backTo pos (starEach es X.env)).any (·.1) = false := by rfl) :
    PE X (.Call (.Name x p) (e :: es) [] pos) (tCallS sp ES t) := by
  obtain ⟨f, fd, F, m, kp, b, _⟩ := F
  exact pe_callS F hr hg m kp b hx ha hdb he hpl
theorem pass00 : Passes CX0 X (fun _ _ _ => False) := fun _ _ _ _ _ _ _ h => h.elim
end
end K4
set_option Elab.async false
set_option linter.all false
set_option maxRecDepth 100000
set_option maxHeartbeats 4000000
/-! heaps, tuples of ints, comprehensions -/
namespace K4
open PySem PySem.Spec PyProof.Rows L2 K4R
theorem sizeLine_is : sizeLine = 16777216 := by decide
theorem ifT {p q : Prop} (h : p) : if true = true then p else q := by rw [if_pos rfl]; exact h
theorem ifF {p q : Prop} (h : q) : if false = true then p else q := by rw [if_neg Bool.false_ne_true]; exact h
theorem ifP {b : Bool} {p q : Prop} (e : b = true) (h : p) : if b = true then p else q := by rw [if_pos e]; exact h
theorem ifN {b : Bool} {p q : Prop} (e : b = false) (h : q) : if b = true then p else q := by rw [if_neg (by rw [e]; exact Bool.false_ne_true)]; exact h
theorem ifB {b : Bool} {p q : Prop} (h1 : b = true → p) (h2 : b = false → q) : if b = true then p else q := by
  cases b with
  | true => exact ifT (h1 rfl)
  | false => exact ifF (h2 rfl)
/-- tuples are kept -/
def KT (H H' : Hp) : Prop := ∀ a xs, H a = some (.tup xs) → H' a = some (.tup xs)
theorem KT.refl (H : Hp) : KT H H := fun _ _ h => h
theorem KT.trans {H H1 H2 : Hp} (a : KT H H1) (b : KT H1 H2) : KT H H2 := fun c o h => b c o (a c o h)
theorem KT.of {H H' : Hp} (s : Same H H') : KT H H' := fun a xs h => s a _ h
theorem KT.upd {H : Hp} {p : Addr} {o : HO} (h : ∀ xs, H p ≠ some (.tup xs)) : KT H (upd H p o) := fun a xs e => by
  by_cases ha : a = p
  · subst ha
    exact absurd e (h xs)
  · rw [upd_ne ha]
    exact e
theorem KT.lst {H : Hp} {p : Addr} {ys : List V} {o : HO} (h : H p = some (.lst ys)) : KT H (L2.upd H p o) := KT.upd fun xs e => by rw [h] at e; cases e
theorem KT.dT {H : Hp} {p : Addr} {kvs} {o : HO} (h : H p = some (.dT kvs)) : KT H (L2.upd H p o) := KT.upd fun xs e => by rw [h] at e; cases e
theorem same_new {H : Hp} {p : Addr} {o : HO} (h : H p = none) : Same H (upd H p o) := fun a u e => by
  by_cases ha : a = p
  · subst ha
    rw [h] at e
    cases e
  · rw [upd_ne ha]
    exact e
theorem same_to {H H1 : Hp} {p : Addr} {o : HO} (s : Same H H1) (h : H p = none) : Same H (upd H1 p o) := fun a u e => by
  by_cases ha : a = p
  · subst ha
    rw [h] at e
    cases e
  · rw [upd_ne ha]
    exact s _ _ e
theorem same_none {H H1 : Hp} {p : Addr} (s : Same H H1) (h : H1 p = none) : H p = none := by
  cases e : H p with
  | none => rfl
  | some o =>
    rw [s p o e] at h
    cases h
theorem IT.kt {H H' : Hp} {a : Addr} {ns : List Int} (k : KT H H') (h : IT H a ns) : IT H' a ns := k a _ h
theorem ITs.kt {H H' : Hp} {as : List Addr} {ks : List (List Int)} (k : KT H H') (h : ITs H as ks) : ITs H' as ks := Paired.mono (fun _ _ q => IT.kt k q) h
theorem paired_get {α β : Type} {F : α → β → Prop} : ∀ {l : List α} {r : List β} {i : Nat} {a : α}, Paired F l r → l[i]? = some a → ∃ b, r[i]? = some b ∧ F a b
  | _, _, _, _, .nil, e => by simp at e
  | _, _, 0, _, .cons h _, e => by
    simp at e
    subst e
    exact ⟨_, rfl, h⟩
  | _, _, i + 1, _, .cons _ t, e => by
    obtain ⟨b, h1, h2⟩ := paired_get (i := i) t (by simpa using e)
    exact ⟨b, by simpa using h1, h2⟩
theorem paired_append {α β : Type} {F : α → β → Prop} : ∀ {l l2 : List α} {r r2 : List β}, Paired F l r → Paired F l2 r2 → Paired F (l ++ l2) (r ++ r2)
  | _, _, _, _, .nil, t => t
  | _, _, _, _, .cons h s, t => .cons h (paired_append s t)
/-- the item at i of a list of refs -/
theorem its_get {H : Hp} {as : List Addr} {ks : List (List Int)} {i : Nat} {x : V} (h : ITs H as ks) (e : (as.map V.ref)[i]? = some x) : ∃ a k, x = .ref a ∧ as[i]? = some a ∧ ks[i]? = some k ∧ IT H a k := by
  rw [List.getElem?_map] at e
  cases ea : as[i]? with
  | none =>
    rw [ea] at e
    cases e
  | some a =>
    rw [ea] at e
    cases e
    obtain ⟨k, h1, h2⟩ := paired_get h ea
    exact ⟨a, k, rfl, rfl, h1, h2⟩
theorem dp_its {K : PySem.W.Frag} {H : Hp} : ∀ {as : List Addr} {ks : List (List Int)}, ITs H as ks → DpAll K H (as.map V.ref) (ks.map encI)
  | _, _, .nil => .nil
  | _, _, .cons h t => .cons (IT.dp h) (dp_its t)
theorem dp_lst {K : PySem.W.Frag} {H : Hp} {l : Addr} {as : List Addr} {ks : List (List Int)} (e : H l = some (.lst (as.map V.ref))) (h : ITs H as ks) : Dp K H (.ref l) (.list (ks.map encI)) := .lst (.of e) (dp_its h)
theorem canLay_ints : ∀ ns : List Int, PyData.canLayAll0 (ns.map PyData.int) = true
  | [] => rfl
  | n :: r => by
    show (PyData.canLay0 (.int n) && PyData.canLayAll0 (r.map PyData.int)) = true
    rw [canLay_ints r]
    rfl
theorem canLay_encs : ∀ ks : List (List Int), PyData.canLayAll0 (ks.map encI) = true
  | [] => rfl
  | n :: r => by
    show (PyData.canLay0 (encI n) && PyData.canLayAll0 (r.map encI)) = true
    rw [canLay_encs r, show PyData.canLay0 (encI n) = true from by unfold encI; simp only [PyData.canLay0]; exact canLay_ints n]
    rfl
theorem depth_encs : ∀ ks : List (List Int), PyData.depthAll (ks.map encI) ≤ 2
  | [] => by simp [PyData.depthAll]
  | n :: r => by
    have h1 := depth_encs r
    have h2 := depth_encI n
    simp only [List.map_cons, PyData.depthAll]
    omega
theorem shaped_its (ks : List (List Int)) : SeqAt.shaped (.list (ks.map encI)) = true := by
  have h1 := depth_encs ks
  have h2 : PyData.canLay0 (.list (ks.map encI)) = true := by
    simp only [PyData.canLay0]
    exact canLay_encs ks
  have h3 : (PyData.list (ks.map encI)).depth ≤ 64 := by
    simp only [PyData.depth]
    omega
  unfold SeqAt.shaped
  rw [h2, decide_eq_true h3]
  rfl
theorem shaped_encI (k : List Int) : SeqAt.shaped (encI k) = true := by
  have h1 := depth_encI k
  have h2 : PyData.canLay0 (encI k) = true := by
    unfold encI
    simp only [PyData.canLay0]
    exact canLay_ints k
  have h3 : (encI k).depth ≤ 64 := by omega
  unfold SeqAt.shaped
  rw [h2, decide_eq_true h3]
  rfl
theorem shaped_nil : SeqAt.shaped (.list []) = true := by decide
theorem eqv_nil (xs : List PyData) : PyData.eqv (.list xs) (.list []) = decide (xs = []) := by
  cases xs with
  | nil => simp [PyData.eqv, PyData.eqvAll]
  | cons x xs => simp [PyData.eqv, PyData.eqvAll]
theorem eqv_ints : ∀ a b : List Int, PyData.eqvAll (a.map .int) (b.map .int) = decide (a = b)
  | [], [] => by simp [PyData.eqvAll]
  | [], _ :: _ => by simp [PyData.eqvAll]
  | _ :: _, [] => by simp [PyData.eqvAll]
  | x :: xs, y :: ys => by
    simp only [List.map_cons, PyData.eqvAll, PyData.eqv]
    rw [eqv_ints xs ys]
    by_cases h : x = y
    · subst h; simp
    · simp [h]
theorem eqv_encI (a b : List Int) : PyData.eqv (encI a) (encI b) = decide (a = b) := by
  unfold encI
  simp only [PyData.eqv]
  exact eqv_ints a b
theorem any_encI (ks : List (List Int)) (k : List Int) : ((ks.map encI).any fun z => PyData.eqv z (encI k)) = decide (k ∈ ks) := by
  rw [List.any_map]
  rw [Bool.eq_iff_iff, List.any_eq_true, decide_eq_true_iff]
  constructor
  · rintro ⟨x, hx, e⟩
    have e' : PyData.eqv (encI x) (encI k) = true := e
    rw [eqv_encI, decide_eq_true_iff] at e'
    exact e' ▸ hx
  · intro hk
    refine ⟨k, hk, ?_⟩
    show PyData.eqv (encI k) (encI k) = true
    rw [eqv_encI, decide_eq_true_iff]
/-- l == [], l a new list of int tuples -/
theorem dp_nil {K : PySem.W.Frag} {H : Hp} {l : Addr} (e : H l = some (.lst [])) : Dp K H (.ref l) (.list []) := .lst (.of e) .nil
/-! ### the order of tuples -/
theorem lexAt_shift {e r : Nat → Bool} {z : Bool} : ∀ (k i : Nat), Ob.lexAt e r z (i + 1) k = Ob.lexAt (fun j => e (j + 1)) (fun j => r (j + 1)) z i k
  | 0, _ => rfl
  | k + 1, i => by
    rw [Ob.lexAt_succ, Ob.lexAt_succ, lexAt_shift k (i + 1)]
theorem lexAt_le : ∀ ns ms : List Int, Ob.lexAt (fun j => decide (ns.getD j 0 = ms.getD j 0)) (fun j => decide (ns.getD j 0 ≤ ms.getD j 0)) (decide (ns.length ≤ ms.length)) 0 (min ns.length ms.length) = decide (ns ≤ ms)
  | [], ms => by simp [Ob.lexAt_zero]
  | n :: ns, [] => by simp [Ob.lexAt_zero]
  | n :: ns, m :: ms => by
    have ih := lexAt_le ns ms
    have e1 : min (n :: ns).length (m :: ms).length = min ns.length ms.length + 1 := by simp only [List.length_cons]; omega
    rw [e1, Ob.lexAt_succ, lexAt_shift]
    simp only [List.getD_cons_zero, List.getD_cons_succ, List.length_cons]
    have e2 : decide (ns.length + 1 ≤ ms.length + 1) = decide (ns.length ≤ ms.length) := by simp
    rw [e2, ih]
    by_cases h : n = m
    · subst h
      rw [if_pos (by simp)]
      simp [List.cons_le_cons_iff]
    · rw [if_neg (by simp [h])]
      have e3 : (n :: ns ≤ m :: ms) ↔ n ≤ m := by
        rw [List.cons_le_cons_iff]
        constructor
        · rintro (h1 | ⟨h1, _⟩)
          · omega
          · exact absurd h1 h
        · intro h1
          exact .inl (by omega)
      simp [e3]
/-! ### comprehensions -/
/-- within a comprehension: H1 the heap ahead, D the new list, R what it holds behind i turns -/
def PvLc (H1 : Hp) (D : Addr) (R : Nat → List V → Hp → Prop) (i : Nat) (H : Hp) : Prop := ∃ acc, H D = some (.lst acc) ∧ acc.length ≤ i ∧ Same H1 H ∧ R i acc H
/-- R speaks of tuples alone -/
def StR (R : Nat → List V → Hp → Prop) : Prop := ∀ i acc H H', KT H H' → R i acc H → R i acc H'
theorem PvLc.zero {H1 : Hp} {D : Addr} {R : Nat → List V → Hp → Prop} (st : StR R) (hD : H1 D = none) (h0 : R 0 [] H1) : PvLc H1 D R 0 (upd H1 D (.lst [])) :=
  ⟨[], upd_same, Nat.le_refl _, same_new hD, st _ _ _ _ (KT.of (same_new hD)) h0⟩
theorem PvLc.put {H1 H H4 : Hp} {D : Addr} {R : Nat → List V → Hp → Prop} {i : Nat} {acc : List V} {y : V} (st : StR R) (hD : H1 D = none) (eD : H D = some (.lst acc)) (hl : acc.length ≤ i) (s1 : Same H1 H) (s4 : Same H H4) (hr : R (i + 1) (acc ++ [y]) H4) (hi : i < 10000000) :
    ∃ acc, H4 D = some (.lst acc) ∧ acc.length < sizeLine ∧ PvLc H1 D R (i + 1) (upd H4 D (.lst (acc ++ [y]))) := by
  refine ⟨acc, s4 _ _ eD, by rw [sizeLine_is]; omega, acc ++ [y], upd_same, by rw [List.length_append]; show acc.length + 1 ≤ i + 1; omega, same_to (s1.trans s4) hD, st _ _ _ _ (KT.lst (s4 _ _ eD)) hr⟩
theorem PvLc.skip {H1 H H4 : Hp} {D : Addr} {R : Nat → List V → Hp → Prop} {i : Nat} {acc : List V} (eD : H D = some (.lst acc)) (hl : acc.length ≤ i) (s1 : Same H1 H) (s4 : Same H H4) (hr : R (i + 1) acc H4) : PvLc H1 D R (i + 1) H4 :=
  ⟨acc, s4 _ _ eD, by omega, s1.trans s4, hr⟩
/-- the new list holds int tuples -/
def RI (F : Nat → List (List Int)) : Nat → List V → Hp → Prop := fun i acc H => ∃ as, acc = as.map V.ref ∧ ITs H as (F i)
theorem RI.st {F : Nat → List (List Int)} : StR (RI F) := fun _ _ _ _ k ⟨as, e, h⟩ => ⟨as, e, ITs.kt k h⟩
theorem RI.zero {F : Nat → List (List Int)} {H : Hp} (h : F 0 = []) : RI F 0 [] H := ⟨[], rfl, by rw [h]; exact .nil⟩
theorem RI.snoc {F : Nat → List (List Int)} {H H' : Hp} {i : Nat} {acc : List V} {a : Addr} {k : List Int} (h : RI F i acc H) (s : KT H H') (hk : IT H' a k) (e : F (i + 1) = F i ++ [k]) : RI F (i + 1) (acc ++ [.ref a]) H' := by
  obtain ⟨as, rfl, h⟩ := h
  refine ⟨as ++ [a], by simp, ?_⟩
  rw [e]
  exact (ITs.kt s h).snoc hk
theorem RI.same {F : Nat → List (List Int)} {H H' : Hp} {i : Nat} {acc : List V} (h : RI F i acc H) (s : KT H H') (e : F (i + 1) = F i) : RI F (i + 1) acc H' := by
  obtain ⟨as, rfl, h⟩ := h
  refine ⟨as, rfl, ?_⟩
  rw [e]
  exact ITs.kt s h
/-- the new list holds ints -/
def RN (F : Nat → List Int) : Nat → List V → Hp → Prop := fun i acc _ => acc = (F i).map V.int
theorem RN.st {F : Nat → List Int} : StR (RN F) := fun _ _ _ _ _ h => h
theorem take_succ_get {α : Type} {l : List α} {i : Nat} {x : α} (h : l[i]? = some x) : l.take (i + 1) = l.take i ++ [x] := by
  rw [List.take_add_one, h]
  rfl
end K4
set_option Elab.async false
set_option linter.all false
set_option maxRecDepth 100000
set_option maxHeartbeats 4000000
namespace K4
open PySem PySem.Spec PyProof.Rows L2 K4R
section
variable {P : Program} {w : World} {K : PySem.W.Frag} {mg : Str → Option Value} {base : Heap}
def sp_is_in : Sp := fun vs H Q _ => ∃ v a b : Int, vs = [.int v, .int a, .int b] ∧ Q (.bl (decide (a ≤ v ∧ v ≤ b))) H
theorem ok_is_in (T : Txt K mg) : FnAt P w K mg base CX0 1 "is_in" ["value", "least", "most"] sp_is_in := by
  refine fn_body T.d_is_in sc_is_in (fun _ _ _ _ _ _ us hl => match us, hl with | [_, _, _], _ => rfl) ?_ (fun f cdv A outer s H vs Q E hr h => ?_)
  · rintro vs H Q E ⟨v, a, b, rfl, _⟩
    rfl
  · refine ⟨_, PSs.nox (pss_one (ps_ret (pe_and (pe_callB call_isi rfl T.b_isinstance (by decide +kernel) (pa_cons (pv 0) (pa_cons (pe_bltn rfl T.b_int (by decide +kernel) (v := .ty "int") rfl) pa_nil))) (pe_and (pe_not (pe_callB call_isi rfl T.b_isinstance (by decide +kernel) (pa_cons (pv 0) (pa_cons (pe_bltn rfl T.b_bool (by decide +kernel) (v := .ty "bool") rfl) pa_nil)))) (pe_one (pe_chain op_le op_le (pv 1) (pv 0) (pv 2))))))), ?_⟩
    obtain ⟨v, a, b, rfl, q⟩ := h
    refine ⟨_, rfl, ?_⟩
    refine ⟨_, _, _, _, true, rfl, .ty _, .base (.int _), kit_ty (by decide +kernel), ?_⟩
    refine ⟨true, rfl, ?_⟩
    refine ⟨_, rfl, ?_⟩
    refine ⟨_, _, _, _, false, rfl, .ty _, .base (.int _), kit_ty (by decide +kernel), ?_⟩
    refine ⟨false, rfl, ?_⟩
    refine ⟨true, rfl, ?_⟩
    refine ifT ?_
    refine ⟨_, rfl, ?_⟩
    refine ⟨_, rfl, ?_⟩
    refine ⟨_, _, rfl, rfl, ?_⟩
    refine ⟨_, rfl, ?_⟩
    by_cases h1 : a ≤ v
    · rw [if_pos (decide_eq_true h1)]
      refine ⟨_, rfl, ?_⟩
      refine ⟨_, _, rfl, rfl, ?_⟩
      have e : decide (a ≤ v ∧ v ≤ b) = decide (v ≤ b) := by simp [h1]
      rw [e] at q
      exact q
    · rw [if_neg (by rw [decide_eq_false h1]; exact Bool.false_ne_true)]
      have e : decide (a ≤ v ∧ v ≤ b) = false := by simp [h1]
      rw [e] at q
      have e2 : decide (a ≤ v) = false := by simp [h1]
      first | exact q | (rw [e2]; exact q)
def sp_gcd : Sp := fun vs H Q _ => ∃ a b : Int, vs = [.int a, .int b] ∧ Q (.int (Int.gcd a b)) H
theorem ok_gcd (T : Txt K mg) : FnAt P w K mg base CX0 1 "gcd" ["one", "other"] sp_gcd := by
  refine fn_body T.d_gcd sc_gcd (fun _ _ _ _ _ _ us hl => match us, hl with | [_, _], _ => rfl) ?_ (fun f cdv A outer s H vs Q E hr h => ?_)
  · rintro vs H Q E ⟨a, b, rfl, _⟩
    rfl
  · refine ⟨_, PSs.nox (pss_cons (ps_par (i := 0) (j := 1) rfl sc_gcd.nd rfl rfl (by decide) rfl rfl (pa_cons (pe_callB call_abs rfl T.b_abs (by decide +kernel) (pa_cons (pv 0) pa_nil)) (pa_cons (pe_callB call_abs rfl T.b_abs (by decide +kernel) (pa_cons (pv 1) pa_nil)) pa_nil)) rfl)
    (pss_cons (ps_while PassesOwn.never (pt_cmpR op_ne (pv 1) pe_int (nomark _)) (pss_one (ps_par (i := 0) (j := 1) rfl sc_gcd.nd rfl rfl (by decide) rfl rfl (pa_cons (pv 1) (pa_cons (pe_op op_modN (pv 0) (pv 1)) pa_nil)) rfl)))
    (pss_one (ps_ret (pv 0))))), ?_⟩
    obtain ⟨a, b, rfl, q⟩ := h
    refine ⟨_, rfl, ?_⟩
    refine ⟨_, rfl, ?_⟩
    refine ⟨_, rfl, ?_⟩
    refine ⟨_, rfl, ?_⟩
    refine ⟨_, _, rfl, ?_⟩
    have ab : ∀ z : Int, (if z < 0 then -z else z) = (z.natAbs : Int) := fun z => by
      by_cases hz : z < 0
      · rw [if_pos hz]; omega
      · rw [if_neg hz]; omega
    refine ⟨fun m σ H' => H' = H ∧ ∃ x y : Nat, m = y ∧ σ = [some (.int x), some (.int y)] ∧ Nat.gcd x y = Int.gcd a b, ⟨b.natAbs, rfl, a.natAbs, b.natAbs, rfl, ?_, rfl⟩, ?_⟩
    · rw [ab, ab]
      rfl
    · rintro m σ H' ⟨rfl, x, y, e0, rfl, hg⟩
      subst e0
      refine ⟨_, rfl, ?_⟩
      refine ⟨rfl, ?_⟩
      refine ⟨_, rfl, ?_⟩
      dsimp only
      by_cases hy : m = 0
      · subst hy
        rw [if_neg (by simp)]
        refine ⟨_, rfl, ?_⟩
        rw [← hg] at q
        rw [Nat.gcd_zero_right] at q
        exact q
      · rw [if_pos (by simp; omega)]
        refine ⟨fun σ' H'' => H'' = H' ∧ σ' = [some (.int m), some (.int ((x : Int).fmod m))], ?_, ?_⟩
        · rintro _ _ ⟨rfl, rfl⟩
          have e : ((x : Int).fmod m) = ((x % m : Nat) : Int) := by rw [Int.fmod_eq_emod_of_nonneg _ (by omega)]; rfl
          refine ⟨x % m, Nat.mod_lt _ (by omega), rfl, m, x % m, rfl, by rw [e], ?_⟩
          rw [← hg, Nat.gcd_comm m, ← Nat.gcd_rec, Nat.gcd_comm]
        · refine ⟨_, rfl, ?_⟩
          refine ⟨_, rfl, ?_⟩
          refine ⟨_, rfl, ?_⟩
          refine ⟨_, _, rfl, rfl, (by omega), ?_⟩
          refine ⟨_, _, rfl, ?_⟩
          exact ⟨rfl, rfl⟩
theorem ok_law_gcd (T : Txt K mg) : FnAt P w K mg base CX0 1 "_law_gcd" ["_law_one", "_law_other"] sp_gcd := by
  refine fn_body T.d_law_gcd sc_law_gcd (fun _ _ _ _ _ _ us hl => match us, hl with | [_, _], _ => rfl) ?_ (fun f cdv A outer s H vs Q E hr h => ?_)
  · rintro vs H Q E ⟨a, b, rfl, _⟩
    rfl
  · refine ⟨_, PSs.nox (pss_cons (ps_par (i := 0) (j := 1) rfl sc_law_gcd.nd rfl rfl (by decide) rfl rfl (pa_cons (pe_callB call_abs rfl T.b_abs (by decide +kernel) (pa_cons (pv 0) pa_nil)) (pa_cons (pe_callB call_abs rfl T.b_abs (by decide +kernel) (pa_cons (pv 1) pa_nil)) pa_nil)) rfl)
    (pss_cons (ps_while PassesOwn.never (pt_cmpR op_ne (pv 1) pe_int (nomark _)) (pss_one (ps_par (i := 0) (j := 1) rfl sc_law_gcd.nd rfl rfl (by decide) rfl rfl (pa_cons (pv 1) (pa_cons (pe_op op_modN (pe_callTy call_int1 rfl T.b_int (by decide +kernel) (pa_cons (pv 0) pa_nil)) (pv 1)) pa_nil)) rfl)))
    (pss_one (ps_ret (pv 0))))), ?_⟩
    obtain ⟨a, b, rfl, q⟩ := h
    refine ⟨_, rfl, ?_⟩
    refine ⟨_, rfl, ?_⟩
    refine ⟨_, rfl, ?_⟩
    refine ⟨_, rfl, ?_⟩
    refine ⟨_, _, rfl, ?_⟩
    have ab : ∀ z : Int, (if z < 0 then -z else z) = (z.natAbs : Int) := fun z => by
      by_cases hz : z < 0
      · rw [if_pos hz]; omega
      · rw [if_neg hz]; omega
    refine ⟨fun m σ H' => H' = H ∧ ∃ x y : Nat, m = y ∧ σ = [some (.int x), some (.int y)] ∧ Nat.gcd x y = Int.gcd a b, ⟨b.natAbs, rfl, a.natAbs, b.natAbs, rfl, ?_, rfl⟩, ?_⟩
    · rw [ab, ab]
      rfl
    · rintro m σ H' ⟨rfl, x, y, e0, rfl, hg⟩
      subst e0
      refine ⟨_, rfl, ?_⟩
      refine ⟨rfl, ?_⟩
      refine ⟨_, rfl, ?_⟩
      dsimp only
      by_cases hy : m = 0
      · subst hy
        rw [if_neg (by simp)]
        refine ⟨_, rfl, ?_⟩
        rw [← hg] at q
        rw [Nat.gcd_zero_right] at q
        exact q
      · rw [if_pos (by simp; omega)]
        refine ⟨fun σ' H'' => H'' = H' ∧ σ' = [some (.int m), some (.int ((x : Int).fmod m))], ?_, ?_⟩
        · rintro _ _ ⟨rfl, rfl⟩
          have e : ((x : Int).fmod m) = ((x % m : Nat) : Int) := by rw [Int.fmod_eq_emod_of_nonneg _ (by omega)]; rfl
          refine ⟨x % m, Nat.mod_lt _ (by omega), rfl, m, x % m, rfl, by rw [e], ?_⟩
          rw [← hg, Nat.gcd_comm m, ← Nat.gcd_rec, Nat.gcd_comm]
        · refine ⟨_, rfl, ?_⟩
          refine ⟨_, rfl, ?_⟩
          refine Or.inl ?_
          refine ⟨_, rfl, ?_⟩
          refine ⟨_, rfl, ?_⟩
          refine ⟨_, _, rfl, rfl, (by omega), ?_⟩
          refine ⟨_, _, rfl, ?_⟩
          exact ⟨rfl, rfl⟩

/-- the ratio r at a -/
def RT (H : Hp) (a : Addr) (r : Rat) : Prop := H a = some (.tup [.int r.num, .int ((r.den : Nat) : Int)])
theorem mkRat_parts (n : Int) (d : Nat) (hd : d ≠ 0) : (mkRat n d).num = n / ((n.gcd d : Nat) : Int) ∧ (((mkRat n d).den : Nat) : Int) = (d : Int) / ((n.gcd d : Nat) : Int) := by
  have e : mkRat n d = Rat.normalize n d hd := by
    unfold mkRat
    rw [dif_neg hd]
  rw [e, Rat.normalize_eq]
  exact ⟨rfl, rfl⟩
def sp_ratio : Sp := fun vs H Q _ => ∃ (n : Int) (d : Nat), vs = [.int n, .int (d : Int)] ∧ 0 < d ∧ d < 2 ^ 9000 ∧ ∀ p, H p = none → Q (.ref p) (upd H p (.tup [.int (mkRat n d).num, .int (((mkRat n d).den : Nat) : Int)]))
theorem gcd_div {n : Int} {d : Nat} (hd : 0 < d) (hb : d < 2 ^ 9000) (i : Int) : CDivW i ((n.gcd d : Nat) : Int) := by
  have h1 : 0 < n.gcd d := Int.gcd_pos_of_ne_zero_right _ (by omega)
  have h2 : n.gcd d ≤ d := Nat.le_of_dvd hd (Int.gcd_dvd_natAbs_right _ _)
  exact wide_div (b := 9000) (by omega) (by
    have e : (((n.gcd d : Nat) : Int)).natAbs = n.gcd d := rfl
    rw [e]
    exact Nat.lt_of_le_of_lt h2 hb) (by decide) (by decide)
theorem ok_reduced (T : Txt K mg) (G_gcd : FnAt P w K mg base CX0 1 "gcd" ["one", "other"] sp_gcd) : FnAt P w K mg base CX0 2 "reduced" ["numerator", "denominator"] sp_ratio := by
  refine fn_body T.d_reduced sc_reduced (fun _ _ _ _ _ _ us hl => match us, hl with | [_, _], _ => rfl) ?_ (fun f cdv A outer s H vs Q E hr h => ?_)
  · rintro vs H Q E ⟨a, b, rfl, _⟩
    rfl
  · refine ⟨_, PSs.nox (pss_cons (ps_set (i := 2) sc_reduced.nd rfl (Or.inl rfl) (pe_cf G_gcd (hr.mono (by decide)) rfl pass00 (pa_cons (pv 0) (pa_cons (pv 1) pa_nil))))
    (pss_cons (ps_if (pt_cmpR op_lt (pv 1) pe_int (nomark _)) (pss_one (ps_set (i := 2) sc_reduced.nd rfl (Or.inl rfl) (pe_un un_neg (pv 2)))) pss_nil)
    (pss_one (ps_ret (pe_tup (pa_cons (pe_op op_fdivW (pv 0) (pv 2)) (pa_cons (pe_op op_fdivW (pv 1) (pv 2)) pa_nil))))))), ?_⟩
    obtain ⟨n, d, rfl, hd, hb, q⟩ := h
    refine ⟨_, rfl, ?_⟩
    refine ⟨_, rfl, ?_⟩
    refine ⟨_, _, rfl, ?_⟩
    refine ⟨_, rfl, ?_⟩
    refine ⟨_, _, rfl, rfl, ?_⟩
    refine ⟨_, rfl, ?_⟩
    dsimp only
    rw [if_neg (by simp)]
    refine ⟨_, rfl, ?_⟩
    refine ⟨_, rfl, ?_⟩
    refine ⟨_, _, rfl, rfl, gcd_div hd hb _, ?_⟩
    refine ⟨_, rfl, ?_⟩
    refine ⟨_, rfl, ?_⟩
    refine ⟨_, _, rfl, rfl, gcd_div hd hb _, ?_⟩
    refine ⟨by show 2 ≤ sizeLine; decide, fun p hp => ?_⟩
    have e := mkRat_parts n d (by omega)
    have q2 := q p hp
    rw [e.1, e.2] at q2
    exact q2
theorem ok_law_ratio (T : Txt K mg) (G_law_gcd : FnAt P w K mg base CX0 1 "_law_gcd" ["_law_one", "_law_other"] sp_gcd) : FnAt P w K mg base CX0 2 "_law_ratio" ["_law_numerator", "_law_denominator"] sp_ratio := by
  refine fn_body T.d_law_ratio sc_law_ratio (fun _ _ _ _ _ _ us hl => match us, hl with | [_, _], _ => rfl) ?_ (fun f cdv A outer s H vs Q E hr h => ?_)
  · rintro vs H Q E ⟨a, b, rfl, _⟩
    rfl
  · refine ⟨_, PSs.nox (pss_cons (ps_set (i := 2) sc_law_ratio.nd rfl (Or.inl rfl) (pe_cf G_law_gcd (hr.mono (by decide)) rfl pass00 (pa_cons (pv 0) (pa_cons (pv 1) pa_nil))))
    (pss_cons (ps_set (i := 2) sc_law_ratio.nd rfl (Or.inl rfl) (pe_ifExp (pt_cmpR op_lt (pv 1) pe_int (nomark _)) (pe_op op_sub pe_int (pv 2)) (pv 2)))
    (pss_one (ps_ret (pe_tup (pa_cons (pe_op op_fdivW (pv 0) (pv 2)) (pa_cons (pe_op op_fdivW (pv 1) (pv 2)) pa_nil))))))), ?_⟩
    obtain ⟨n, d, rfl, hd, hb, q⟩ := h
    refine ⟨_, rfl, ?_⟩
    refine ⟨_, rfl, ?_⟩
    refine ⟨_, _, rfl, ?_⟩
    refine ⟨_, rfl, ?_⟩
    refine ⟨_, _, rfl, rfl, ?_⟩
    refine ⟨_, rfl, ?_⟩
    dsimp only
    rw [if_neg (by simp)]
    refine ⟨_, rfl, ?_⟩
    refine ⟨_, rfl, ?_⟩
    refine ⟨_, rfl, ?_⟩
    refine ⟨_, _, rfl, rfl, gcd_div hd hb _, ?_⟩
    refine ⟨_, rfl, ?_⟩
    refine ⟨_, rfl, ?_⟩
    refine ⟨_, _, rfl, rfl, gcd_div hd hb _, ?_⟩
    refine ⟨by show 2 ≤ sizeLine; decide, fun p hp => ?_⟩
    have e := mkRat_parts n d (by omega)
    have q2 := q p hp
    rw [e.1, e.2] at q2
    exact q2
/-- small enough for one step -/
def Sm (r : Rat) : Prop := r.num.natAbs < 2 ^ 4000 ∧ r.den < 2 ^ 4000
theorem Sm.mul1 {r s : Rat} (h : Sm r) (g : Sm s) : CMulW r.num s.num := wide_mul h.1 g.1 (by decide) (by decide) (by decide)
theorem Sm.mul2 {r s : Rat} (h : Sm r) (g : Sm s) : CMulW r.num ((s.den : Nat) : Int) := wide_mul h.1 (b := 4000) g.2 (by decide) (by decide) (by decide)
theorem Sm.mul3 {r s : Rat} (h : Sm r) (g : Sm s) : CMulW ((r.den : Nat) : Int) ((s.den : Nat) : Int) := wide_mul (a := 4000) h.2 (b := 4000) g.2 (by decide) (by decide) (by decide)
theorem Sm.den {r s : Rat} (h : Sm r) (g : Sm s) : r.den * s.den < 2 ^ 9000 := by
  have a : r.den * s.den < 2 ^ 4000 * 2 ^ 4000 := Nat.mul_lt_mul'' h.2 g.2
  rw [← Nat.pow_add] at a
  exact Nat.lt_of_lt_of_le a (Nat.pow_le_pow_right (by decide) (by decide))
def sp_bin (F : Rat → Rat → Rat) : Sp := fun vs H Q _ => ∃ (a b : Addr) (r s : Rat), vs = [.ref a, .ref b] ∧ RT H a r ∧ RT H b s ∧ Sm r ∧ Sm s ∧ ∀ p, H p = none → Q (.ref p) (upd H p (.tup [.int (F r s).num, .int (((F r s).den : Nat) : Int)]))
theorem ok_plus (T : Txt K mg) (G_reduced : FnAt P w K mg base CX0 2 "reduced" ["numerator", "denominator"] sp_ratio) : FnAt P w K mg base CX0 3 "plus" ["one", "other"] (sp_bin fun r s => r + s) := by
  refine fn_body T.d_plus sc_plus (fun _ _ _ _ _ _ us hl => match us, hl with | [_, _], _ => rfl) ?_ (fun f cdv A outer s H vs Q E hr h => ?_)
  · rintro vs H Q E ⟨a, b, _, _, rfl, _⟩
    rfl
  · refine ⟨_, PSs.nox (pss_one (ps_ret (pe_cf G_reduced (hr.mono (by decide)) rfl pass00 (pa_cons (pe_op op_add (pe_op op_mulW (pe_ix ix_tup (pv 0) pe_int (fun _ _ => rfl)) (pe_ix ix_tup (pv 1) pe_int (fun _ _ => rfl))) (pe_op op_mulW (pe_ix ix_tup (pv 1) pe_int (fun _ _ => rfl)) (pe_ix ix_tup (pv 0) pe_int (fun _ _ => rfl)))) (pa_cons (pe_op op_mulW (pe_ix ix_tup (pv 0) pe_int (fun _ _ => rfl)) (pe_ix ix_tup (pv 1) pe_int (fun _ _ => rfl))) pa_nil))))), ?_⟩
    obtain ⟨a, b, r, s', rfl, ha, hb, hr1, hs1, q⟩ := h
    have ha' : H a = some (.tup [.int r.num, .int ((r.den : Nat) : Int)]) := ha
    have hb' : H b = some (.tup [.int s'.num, .int ((s'.den : Nat) : Int)]) := hb
    refine ⟨_, rfl, ?_⟩
    refine ⟨_, _, _, _, rfl, rfl, .of (by assumption), rfl, ?_⟩
    refine ⟨_, rfl, ?_⟩
    refine ⟨_, _, _, _, rfl, rfl, .of (by assumption), rfl, ?_⟩
    refine ⟨_, _, rfl, rfl, hr1.mul2 hs1, ?_⟩
    refine ⟨_, rfl, ?_⟩
    refine ⟨_, _, _, _, rfl, rfl, .of (by assumption), rfl, ?_⟩
    refine ⟨_, rfl, ?_⟩
    refine ⟨_, _, _, _, rfl, rfl, .of (by assumption), rfl, ?_⟩
    refine ⟨_, _, rfl, rfl, hs1.mul2 hr1, ?_⟩
    refine ⟨_, _, rfl, rfl, ?_⟩
    refine ⟨_, rfl, ?_⟩
    refine ⟨_, _, _, _, rfl, rfl, .of (by assumption), rfl, ?_⟩
    refine ⟨_, rfl, ?_⟩
    refine ⟨_, _, _, _, rfl, rfl, .of (by assumption), rfl, ?_⟩
    refine ⟨_, _, rfl, rfl, hr1.mul3 hs1, ?_⟩
    refine ⟨_, r.den * s'.den, rfl, Nat.mul_pos r.den_pos s'.den_pos, hr1.den hs1, fun p hp => ?_⟩
    rw [← Rat.add_def']
    exact q p hp
theorem ok_law_plus (T : Txt K mg) (G_law_ratio : FnAt P w K mg base CX0 2 "_law_ratio" ["_law_numerator", "_law_denominator"] sp_ratio) : FnAt P w K mg base CX0 3 "_law_plus" ["_law_one", "_law_other"] (sp_bin fun r s => r + s) := by
  refine fn_body T.d_law_plus sc_law_plus (fun _ _ _ _ _ _ us hl => match us, hl with | [_, _], _ => rfl) ?_ (fun f cdv A outer s H vs Q E hr h => ?_)
  · rintro vs H Q E ⟨a, b, _, _, rfl, _⟩
    rfl
  · refine ⟨_, PSs.nox (pss_one (ps_ret (pe_cf G_law_ratio (hr.mono (by decide)) rfl pass00 (pa_cons (pe_op op_add (pe_op op_mulW (pe_ix ix_tup (pv 0) pe_int (fun _ _ => rfl)) (pe_ix ix_tup (pv 1) pe_int (fun _ _ => rfl))) (pe_op op_mulW (pe_ix ix_tup (pv 1) pe_int (fun _ _ => rfl)) (pe_ix ix_tup (pv 0) pe_int (fun _ _ => rfl)))) (pa_cons (pe_op op_mulW (pe_ix ix_tup (pv 0) pe_int (fun _ _ => rfl)) (pe_ix ix_tup (pv 1) pe_int (fun _ _ => rfl))) pa_nil))))), ?_⟩
    obtain ⟨a, b, r, s', rfl, ha, hb, hr1, hs1, q⟩ := h
    have ha' : H a = some (.tup [.int r.num, .int ((r.den : Nat) : Int)]) := ha
    have hb' : H b = some (.tup [.int s'.num, .int ((s'.den : Nat) : Int)]) := hb
    refine ⟨_, rfl, ?_⟩
    refine ⟨_, _, _, _, rfl, rfl, .of (by assumption), rfl, ?_⟩
    refine ⟨_, rfl, ?_⟩
    refine ⟨_, _, _, _, rfl, rfl, .of (by assumption), rfl, ?_⟩
    refine ⟨_, _, rfl, rfl, hr1.mul2 hs1, ?_⟩
    refine ⟨_, rfl, ?_⟩
    refine ⟨_, _, _, _, rfl, rfl, .of (by assumption), rfl, ?_⟩
    refine ⟨_, rfl, ?_⟩
    refine ⟨_, _, _, _, rfl, rfl, .of (by assumption), rfl, ?_⟩
    refine ⟨_, _, rfl, rfl, hs1.mul2 hr1, ?_⟩
    refine ⟨_, _, rfl, rfl, ?_⟩
    refine ⟨_, rfl, ?_⟩
    refine ⟨_, _, _, _, rfl, rfl, .of (by assumption), rfl, ?_⟩
    refine ⟨_, rfl, ?_⟩
    refine ⟨_, _, _, _, rfl, rfl, .of (by assumption), rfl, ?_⟩
    refine ⟨_, _, rfl, rfl, hr1.mul3 hs1, ?_⟩
    refine ⟨_, r.den * s'.den, rfl, Nat.mul_pos r.den_pos s'.den_pos, hr1.den hs1, fun p hp => ?_⟩
    rw [← Rat.add_def']
    exact q p hp
theorem ok_times (T : Txt K mg) (G_reduced : FnAt P w K mg base CX0 2 "reduced" ["numerator", "denominator"] sp_ratio) : FnAt P w K mg base CX0 3 "times" ["one", "other"] (sp_bin fun r s => r * s) := by
  refine fn_body T.d_times sc_times (fun _ _ _ _ _ _ us hl => match us, hl with | [_, _], _ => rfl) ?_ (fun f cdv A outer s H vs Q E hr h => ?_)
  · rintro vs H Q E ⟨a, b, _, _, rfl, _⟩
    rfl
  · refine ⟨_, PSs.nox (pss_one (ps_ret (pe_cf G_reduced (hr.mono (by decide)) rfl pass00 (pa_cons (pe_op op_mulW (pe_ix ix_tup (pv 0) pe_int (fun _ _ => rfl)) (pe_ix ix_tup (pv 1) pe_int (fun _ _ => rfl))) (pa_cons (pe_op op_mulW (pe_ix ix_tup (pv 0) pe_int (fun _ _ => rfl)) (pe_ix ix_tup (pv 1) pe_int (fun _ _ => rfl))) pa_nil))))), ?_⟩
    obtain ⟨a, b, r, s', rfl, ha, hb, hr1, hs1, q⟩ := h
    have ha' : H a = some (.tup [.int r.num, .int ((r.den : Nat) : Int)]) := ha
    have hb' : H b = some (.tup [.int s'.num, .int ((s'.den : Nat) : Int)]) := hb
    refine ⟨_, rfl, ?_⟩
    refine ⟨_, _, _, _, rfl, rfl, .of (by assumption), rfl, ?_⟩
    refine ⟨_, rfl, ?_⟩
    refine ⟨_, _, _, _, rfl, rfl, .of (by assumption), rfl, ?_⟩
    refine ⟨_, _, rfl, rfl, hr1.mul1 hs1, ?_⟩
    refine ⟨_, rfl, ?_⟩
    refine ⟨_, _, _, _, rfl, rfl, .of (by assumption), rfl, ?_⟩
    refine ⟨_, rfl, ?_⟩
    refine ⟨_, _, _, _, rfl, rfl, .of (by assumption), rfl, ?_⟩
    refine ⟨_, _, rfl, rfl, hr1.mul3 hs1, ?_⟩
    refine ⟨_, r.den * s'.den, rfl, Nat.mul_pos r.den_pos s'.den_pos, hr1.den hs1, fun p hp => ?_⟩
    rw [← Rat.mul_def']
    exact q p hp
end
end K4
set_option Elab.async false
set_option linter.all false
set_option maxRecDepth 100000
set_option maxHeartbeats 4000000
/-! tables, webs, starts are right -/
namespace K4
open PySem PySem.Spec PyProof.Rows L2 K4R
def InR (n : Int) (ns : List Int) : Prop := ∀ x ∈ ns, 0 ≤ x ∧ x < n
def RuleOk (n : Int) (k : List Int) : Prop := ∃ a b c d : Int, k = [a, b, c, d] ∧ InR n k ∧ a ≤ b ∧ (a = b → c ≤ d) ∧ ¬ (a = c ∧ b = d)
section
variable {P : Program} {w : World} {K : PySem.W.Frag} {mg : Str → Option Value} {base : Heap}
def sp_is_rule : Sp := fun vs H Q _ => ∃ (t : Addr) (k : List Int) (n : Int), vs = [.ref t, .int n] ∧ IT H t k ∧ RuleOk n k ∧ ∀ H', Same H H' → Q (.bl true) H'
theorem ok_is_rule (T : Txt K mg) (G_is_in : FnAt P w K mg base CX0 1 "is_in" ["value", "least", "most"] sp_is_in) : FnAt P w K mg base CX0 2 "is_rule" ["value", "many"] sp_is_rule := by
  refine fn_body T.d_is_rule sc_is_rule (fun _ _ _ _ _ _ us hl => match us, hl with | [_, _], _ => rfl) ?_ (fun f cdv A outer s H vs Q E hr h => ?_)
  · rintro vs H Q E ⟨a, b, _, rfl, _⟩
    rfl
  · refine ⟨_, PSs.nox (pss_cons (ps_if (PW.pt (pw_or (pt_not (pt_val (pe_callB call_isi rfl T.b_isinstance (by decide +kernel) (pa_cons (pv 0) (pa_cons (pe_bltn rfl T.b_tuple (by decide +kernel) (v := .ty "tuple") rfl) pa_nil))))) (pw_or (pt_cmpR op_ne (pe_callB call_len_seq rfl T.b_len (by decide +kernel) (pa_cons (pv 0) pa_nil)) pe_int (nomark _)) (pw_or1 (pt_cmpR (op_neD hr.units) (pe_lc (own := [("one", 2)]) rfl sc_is_rule.nd (pi_tup (pv 0)) (blkOk_by (N := N_is_rule) (sc := defScope s_is_rule) (by decide +kernel)) (fun _ _ _ _ _ => (pg_name (i := 2) sc_is_rule.nd rfl (Or.inl rfl))) (fun _ _ _ _ _ => (pts_one (pt_not (pt_val (pe_cf G_is_in (hr.mono (by decide)) rfl pass00 (pa_cons (pv 2) (pa_cons pe_int (pa_cons (pe_op op_sub (pv 1) pe_int) pa_nil)))))))) (fun _ _ _ _ _ => (pv 2))) (pe_lst pa_nil) (nomark _)))))) (pss_one (ps_ret pe_bl)) pss_nil)
    (pss_cons (ps_if (PW.pt (pw_or (pt_cmpR op_gt (pe_ix ix_tup (pv 0) pe_int (fun _ _ => rfl)) (pe_ix ix_tup (pv 0) pe_int (fun _ _ => rfl)) (nomark _)) (pw_or1 (PW.pt (pw_and (pt_cmpR op_eq (pe_ix ix_tup (pv 0) pe_int (fun _ _ => rfl)) (pe_ix ix_tup (pv 0) pe_int (fun _ _ => rfl)) (nomark _)) (pw_and1 (pt_cmpR op_gt (pe_ix ix_tup (pv 0) pe_int (fun _ _ => rfl)) (pe_ix ix_tup (pv 0) pe_int (fun _ _ => rfl)) (nomark _)))))))) (pss_one (ps_ret pe_bl)) pss_nil)
    (pss_one (ps_ret (pe_cmpR (op_neD hr.units) (pe_slice sl_tupA (pv 0) po_none (po_some pe_int)) (pe_slice sl_tupA (pv 0) (po_some pe_int) po_none) (nomark _)))))), ?_⟩
    obtain ⟨t, k, n, rfl, ht, ⟨a, b, c, d, rfl, hin, hab, hcd, hne⟩, q⟩ := h
    have ht' : H t = some (.tup [.int a, .int b, .int c, .int d]) := ht
    refine ⟨_, rfl, ?_⟩
    refine ⟨_, _, _, _, true, rfl, .ty _, .base (.tup (by assumption)), kit_ty (by decide +kernel), ?_⟩
    refine ⟨true, rfl, ?_⟩
    refine ifF ?_
    refine ⟨_, rfl, ?_⟩
    refine ⟨_, _, rfl, .inr (.of ht'), ?_⟩
    refine ⟨rfl, ?_⟩
    refine ⟨_, rfl, ?_⟩
    refine ifF ?_
    refine ⟨_, rfl, ?_⟩
    refine ⟨_, rfl, ⟨_, .of ht'⟩, ?_⟩
    intro D hD
    refine lc_it (walk_tup (xs := [.int a, .int b, .int c, .int d])) (PvLc H D fun _ acc _ => acc = []) (PvLc.zero (fun _ _ _ _ _ h => h) hD rfl) (fun i H2 _ p => ?_) (fun i x H2 H3 hi p y => ?_) (fun H2 p => ?_)
    · obtain ⟨acc, eD, hl, s1, hr⟩ := p
      exact .of (s1 _ _ ht')
    · obtain ⟨acc, eD, hl, s1, rfl⟩ := p
      obtain ⟨rfl, hx⟩ := y
      have hx' : ([a, b, c, d].map V.int)[i]? = some x := hx
      rw [List.getElem?_map] at hx'
      obtain ⟨z, hz, rfl⟩ := Option.map_eq_some_iff.mp hx'
      have hz' := hin z (List.mem_of_getElem? hz)
      refine ⟨rfl, ?_⟩
      refine ⟨_, rfl, ?_⟩
      refine ⟨_, rfl, ?_⟩
      refine ⟨_, _, rfl, rfl, ?_⟩
      refine ⟨_, _, _, rfl, ?_⟩
      refine ⟨_, rfl, ?_⟩
      refine ifN (by simp; omega) ?_
      exact PvLc.skip eD hl s1 (Same.refl _) rfl
    · obtain ⟨acc, eD, hl, s1, rfl⟩ := p
      refine ⟨Nat.zero_le _, fun p hp => ?_⟩
      have s2 : Same H (upd H2 p (.lst [])) := s1.trans (same_new hp)
      have ht2 := s2 _ _ ht'
      refine ⟨_, _, dp_nil ((same_new hp) _ _ eD), dp_nil upd_same, shaped_nil, shaped_nil, ?_⟩
      refine ⟨_, rfl, ?_⟩
      refine ifN (by decide) ?_
      have fin : tRet (tOp (rNeD K) (tSl (rSlA K) (tVar 0) tNoPart (tPart (tC (V.int 2)))) (tSl (rSlA K) (tVar 0) (tPart (tC (V.int 2))) tNoPart)) { nx := fun _ H' => Q .non H', rt := Q } (L2.start N_is_rule [.ref t, .int n]) (upd H2 p (.lst [])) := by
        refine ⟨_, rfl, ?_⟩
        refine ⟨_, rfl, ?_⟩
        refine ⟨_, _, rfl, .of ht2, fun h => absurd h (show ¬ (HT.sIx 4 0 none = 0 ∧ HT.sIx 4 4 (some 2) = 4) by decide), fun _ p1 hp1 => ?_⟩
        have ht3 := (same_new (o := .tup (cutV [V.int a, V.int b, V.int c, V.int d] none (some 2))) hp1) _ _ ht2
        refine ⟨_, rfl, ?_⟩
        refine ⟨_, rfl, ?_⟩
        refine ⟨_, _, rfl, .of ht3, fun h => absurd h (show ¬ (HT.sIx 4 0 (some 2) = 0 ∧ HT.sIx 4 4 none = 4) by decide), fun _ p2 hp2 => ?_⟩
        have s3 : Same H _ := s2.trans ((same_new hp1).trans (same_new (o := .tup (cutV [V.int a, V.int b, V.int c, V.int d] (some 2) none)) hp2))
        have i1 : IT (upd (upd (upd H2 p (.lst [])) p1 (.tup (cutV [V.int a, V.int b, V.int c, V.int d] none (some 2)))) p2 (.tup (cutV [V.int a, V.int b, V.int c, V.int d] (some 2) none))) p1 [a, b] := (same_new hp2) _ _ upd_same
        have i2 : IT (upd (upd (upd H2 p (.lst [])) p1 (.tup (cutV [V.int a, V.int b, V.int c, V.int d] none (some 2)))) p2 (.tup (cutV [V.int a, V.int b, V.int c, V.int d] (some 2) none))) p2 [c, d] := upd_same
        refine ⟨_, _, i1.dp, i2.dp, shaped_encI _, shaped_encI _, ?_⟩
        rw [eqv_encI]
        have e : (!decide ([a, b] = [c, d])) = true := by
          rw [decide_eq_false (fun z => by cases z; exact hne ⟨rfl, rfl⟩)]
          rfl
        rw [e]
        exact q _ s3
      refine ⟨_, rfl, ?_⟩
      refine ⟨_, _, _, _, rfl, rfl, .of (by assumption), rfl, ?_⟩
      refine ⟨_, rfl, ?_⟩
      refine ⟨_, _, _, _, rfl, rfl, .of (by assumption), rfl, ?_⟩
      refine ⟨_, _, rfl, rfl, ?_⟩
      refine ⟨_, rfl, ?_⟩
      refine ifN (by simp; omega) ?_
      refine ⟨_, rfl, ?_⟩
      refine ⟨_, _, _, _, rfl, rfl, .of (by assumption), rfl, ?_⟩
      refine ⟨_, rfl, ?_⟩
      refine ⟨_, _, _, _, rfl, rfl, .of (by assumption), rfl, ?_⟩
      refine ⟨rfl, ?_⟩
      refine ⟨_, rfl, ?_⟩
      refine ifB (fun e => ?_) (fun e => ?_)
      · have e' : a = b := by simpa using e
        refine ⟨_, rfl, ?_⟩
        refine ⟨_, _, _, _, rfl, rfl, .of (by assumption), rfl, ?_⟩
        refine ⟨_, rfl, ?_⟩
        refine ⟨_, _, _, _, rfl, rfl, .of (by assumption), rfl, ?_⟩
        refine ⟨_, _, rfl, rfl, ?_⟩
        refine ⟨_, rfl, ?_⟩
        refine ifN (by have := hcd e'; simp; omega) ?_
        exact fin
      · exact fin
def EdgeOk (n : Int) (k : List Int) : Prop := ∃ a b : Int, k = [a, b] ∧ InR n k ∧ a < b
def sp_is_edge : Sp := fun vs H Q _ => ∃ (t : Addr) (k : List Int) (n : Int), vs = [.ref t, .int n] ∧ IT H t k ∧ EdgeOk n k ∧ ∀ H', Same H H' → Q (.bl true) H'
theorem ok_is_edge (T : Txt K mg) (G_is_in : FnAt P w K mg base CX0 1 "is_in" ["value", "least", "most"] sp_is_in) : FnAt P w K mg base CX0 2 "is_edge" ["value", "many"] sp_is_edge := by
  refine fn_body T.d_is_edge sc_is_edge (fun _ _ _ _ _ _ us hl => match us, hl with | [_, _], _ => rfl) ?_ (fun f cdv A outer s H vs Q E hr h => ?_)
  · rintro vs H Q E ⟨a, b, _, rfl, _⟩
    rfl
  · refine ⟨_, PSs.nox (pss_cons (ps_if (PW.pt (pw_or (pt_not (pt_val (pe_callB call_isi rfl T.b_isinstance (by decide +kernel) (pa_cons (pv 0) (pa_cons (pe_bltn rfl T.b_tuple (by decide +kernel) (v := .ty "tuple") rfl) pa_nil))))) (pw_or1 (pt_cmpR op_ne (pe_callB call_len_seq rfl T.b_len (by decide +kernel) (pa_cons (pv 0) pa_nil)) pe_int (nomark _))))) (pss_one (ps_ret pe_bl)) pss_nil)
    (pss_one (ps_ret (pe_and (pe_cmpR (op_eqD hr.units) (pe_lc (own := [("one", 2)]) rfl sc_is_edge.nd (pi_tup (pv 0)) (blkOk_by (N := N_is_edge) (sc := defScope s_is_edge) (by decide +kernel)) (fun _ _ _ _ _ => (pg_name (i := 2) sc_is_edge.nd rfl (Or.inl rfl))) (fun _ _ _ _ _ => (pts_one (pt_not (pt_val (pe_cf G_is_in (hr.mono (by decide)) rfl pass00 (pa_cons (pv 2) (pa_cons pe_int (pa_cons (pe_op op_sub (pv 1) pe_int) pa_nil)))))))) (fun _ _ _ _ _ => (pv 2))) (pe_lst pa_nil) (nomark _)) (pe_one (pe_cmpR op_lt (pe_ix ix_tup (pv 0) pe_int (fun _ _ => rfl)) (pe_ix ix_tup (pv 0) pe_int (fun _ _ => rfl)) (nomark _))))))), ?_⟩
    obtain ⟨t, k, n, rfl, ht, ⟨a, b, rfl, hin, hab⟩, q⟩ := h
    have ht' : H t = some (.tup [.int a, .int b]) := ht
    refine ⟨_, rfl, ?_⟩
    refine ⟨_, _, _, _, true, rfl, .ty _, .base (.tup (by assumption)), kit_ty (by decide +kernel), ?_⟩
    refine ⟨true, rfl, ?_⟩
    refine ifF ?_
    refine ⟨_, rfl, ?_⟩
    refine ⟨_, _, rfl, .inr (.of ht'), ?_⟩
    refine ⟨rfl, ?_⟩
    refine ⟨_, rfl, ?_⟩
    refine ifF ?_
    refine ⟨_, rfl, ?_⟩
    refine ⟨_, rfl, ⟨_, .of ht'⟩, ?_⟩
    intro D hD
    refine lc_it (walk_tup (xs := [.int a, .int b])) (PvLc H D fun _ acc _ => acc = []) (PvLc.zero (fun _ _ _ _ _ h => h) hD rfl) (fun i H2 _ p => ?_) (fun i x H2 H3 hi p y => ?_) (fun H2 p => ?_)
    · obtain ⟨acc, eD, hl, s1, hr⟩ := p
      exact .of (s1 _ _ ht')
    · obtain ⟨acc, eD, hl, s1, rfl⟩ := p
      obtain ⟨rfl, hx⟩ := y
      have hx' : ([a, b].map V.int)[i]? = some x := hx
      rw [List.getElem?_map] at hx'
      obtain ⟨z, hz, rfl⟩ := Option.map_eq_some_iff.mp hx'
      have hz' := hin z (List.mem_of_getElem? hz)
      refine ⟨rfl, ?_⟩
      refine ⟨_, rfl, ?_⟩
      refine ⟨_, rfl, ?_⟩
      refine ⟨_, _, rfl, rfl, ?_⟩
      refine ⟨_, _, _, rfl, ?_⟩
      refine ⟨_, rfl, ?_⟩
      refine ifN (by simp; omega) ?_
      exact PvLc.skip eD hl s1 (Same.refl _) rfl
    · obtain ⟨acc, eD, hl, s1, rfl⟩ := p
      refine ⟨Nat.zero_le _, fun p hp => ?_⟩
      have s2 : Same H (upd H2 p (.lst [])) := s1.trans (same_new hp)
      have ht2 := s2 _ _ ht'
      refine ⟨_, _, dp_nil ((same_new hp) _ _ eD), dp_nil upd_same, shaped_nil, shaped_nil, ?_⟩
      refine ⟨_, rfl, ?_⟩
      refine ifP (by decide) ?_
      refine ⟨_, rfl, ?_⟩
      refine ⟨_, _, _, _, rfl, rfl, .of (by assumption), rfl, ?_⟩
      refine ⟨_, rfl, ?_⟩
      refine ⟨_, _, _, _, rfl, rfl, .of (by assumption), rfl, ?_⟩
      refine ⟨_, _, rfl, rfl, ?_⟩
      have e : decide (a < b) = true := by simpa using hab
      show Q (.bl (decide (a < b))) _
      rw [e]
      exact q _ s2
/-- a table of n kinds with these rules, a web of n places with these edges -/
def TabAt (H : Hp) (t : Addr) (n : Int) (ks : List (List Int)) : Prop := ∃ r as, H t = some (.tup [.int n, .ref r]) ∧ H r = some (.tup (as.map V.ref)) ∧ ITs H as ks
theorem TabAt.kt {H H' : Hp} {t : Addr} {n : Int} {ks : List (List Int)} (k : KT H H') (h : TabAt H t n ks) : TabAt H' t n ks := let ⟨r, as, h1, h2, h3⟩ := h; ⟨r, as, k _ _ h1, k _ _ h2, ITs.kt k h3⟩
def Rising (ks : List (List Int)) : Prop := ∀ i k k', ks[i]? = some k → ks[i + 1]? = some k' → k < k'
def TabOk (n : Int) (ks : List (List Int)) : Prop := 1 ≤ n ∧ n ≤ 5 ∧ ks.length ≤ 20 ∧ (∀ k ∈ ks, RuleOk n k) ∧ Rising ks
def WebOk (n : Int) (ks : List (List Int)) : Prop := 1 ≤ n ∧ n ≤ 8 ∧ ks.length ≤ 1000 ∧ (∀ k ∈ ks, EdgeOk n k) ∧ Rising ks
def sp_need_table : Sp := fun vs H Q _ => ∃ (t : Addr) (n : Int) (ks : List (List Int)), vs = [.ref t] ∧ TabAt H t n ks ∧ TabOk n ks ∧ ∀ H', Same H H' → Q .non H'
theorem ok_need_table (T : Txt K mg) (G_is_in : FnAt P w K mg base CX0 1 "is_in" ["value", "least", "most"] sp_is_in) (G_is_rule : FnAt P w K mg base CX0 2 "is_rule" ["value", "many"] sp_is_rule) : FnAt P w K mg base CX0 3 "need_table" ["table"] sp_need_table := by
  obtain ⟨t5, hMOST_KINDS⟩ := T.c_MOST_KINDS
  obtain ⟨t20, hMOST_RULES⟩ := T.c_MOST_RULES
  refine fn_body T.d_need_table sc_need_table (fun _ _ _ _ _ _ us hl => match us, hl with | [_], _ => rfl) ?_ (fun f cdv A outer s H vs Q E hr h => ?_)
  · rintro vs H Q E ⟨a, b, _, rfl, _⟩
    rfl
  · refine ⟨_, PSs.nox (pss_cons (ps_if (PW.pt (pw_or (pt_not (pt_val (pe_callB call_isi rfl T.b_isinstance (by decide +kernel) (pa_cons (pv 0) (pa_cons (pe_bltn rfl T.b_tuple (by decide +kernel) (v := .ty "tuple") rfl) pa_nil))))) (pw_or (pt_cmpR op_ne (pe_callB call_len_seq rfl T.b_len (by decide +kernel) (pa_cons (pv 0) pa_nil)) pe_int (nomark _)) (pw_or1 (pt_not (pt_val (pe_cf G_is_in (hr.mono (by decide)) rfl pass00 (pa_cons (pe_ix ix_tup (pv 0) pe_int (fun _ _ => rfl)) (pa_cons pe_int (pa_cons (pe_glob rfl hMOST_KINDS (v := .int 5) ⟨_, rfl⟩) pa_nil)))))))))) pss_never pss_nil)
    (pss_cons (ps_if (PW.pt (pw_or (pt_not (pt_val (pe_callB call_isi rfl T.b_isinstance (by decide +kernel) (pa_cons (pe_ix ix_tup (pv 0) pe_int (fun _ _ => rfl)) (pa_cons (pe_bltn rfl T.b_tuple (by decide +kernel) (v := .ty "tuple") rfl) pa_nil))))) (pw_or1 (pt_cmpR op_gt (pe_callB call_len_seq rfl T.b_len (by decide +kernel) (pa_cons (pe_ix ix_tup (pv 0) pe_int (fun _ _ => rfl)) pa_nil)) (pe_glob rfl hMOST_RULES (v := .int 20) ⟨_, rfl⟩) (nomark _))))) pss_never pss_nil)
    (pss_one (ps_for PassesOwn.never rfl (pi_enumT rfl T.b_enumerate (pa_cons (pe_ix ix_tup (pv 0) pe_int (fun _ _ => rfl)) pa_nil)) (pg_tup rfl (pgs_cons (pg_name (i := 1) sc_need_table.nd rfl (Or.inl rfl)) (pgs_cons (pg_name (i := 2) sc_need_table.nd rfl (Or.inl rfl)) pgs_nil)))
    (pss_one (ps_if (PW.pt (pw_or (pt_not (pt_val (pe_cf G_is_rule (hr.mono (by decide)) rfl pass00 (pa_cons (pv 2) (pa_cons (pe_ix ix_tup (pv 0) pe_int (fun _ _ => rfl)) pa_nil))))) (pw_or1 (PW.pt (pw_and (pt_cmpR op_gt (pv 1) pe_int (nomark _)) (pw_and1 (pt_cmpR (op_leT hr.units0) (pv 2) (pe_ix ix_tup (pe_ix ix_tup (pv 0) pe_int (fun _ _ => rfl)) (pe_op op_sub (pv 1) pe_int) (fun _ _ => rfl)) (nomark _)))))))) pss_never pss_nil)))))), ?_⟩
    obtain ⟨t, n, ks, rfl, ⟨r, as, h1, h2, h3⟩, ⟨n1, n2, n3, ok, ris⟩, q⟩ := h
    have hl := h3.length
    refine ⟨_, rfl, ?_⟩
    refine ⟨_, _, _, _, true, rfl, .ty _, .base (.tup (by assumption)), kit_ty (by decide +kernel), ?_⟩
    refine ⟨true, rfl, ?_⟩
    refine ifF ?_
    refine ⟨_, rfl, ?_⟩
    refine ⟨_, _, rfl, .inr (.of h1), ?_⟩
    refine ⟨rfl, ?_⟩
    refine ⟨_, rfl, ?_⟩
    refine ifF ?_
    refine ⟨_, rfl, ?_⟩
    refine ⟨_, _, _, _, rfl, rfl, .of (by assumption), rfl, ?_⟩
    refine ⟨_, _, _, rfl, ?_⟩
    refine ⟨_, rfl, ?_⟩
    refine ifN (by simp; omega) ?_
    refine ⟨_, rfl, ?_⟩
    refine ⟨_, _, _, _, rfl, rfl, .of (by assumption), rfl, ?_⟩
    refine ⟨_, _, _, _, true, rfl, .ty _, .base (.tup (by assumption)), kit_ty (by decide +kernel), ?_⟩
    refine ⟨true, rfl, ?_⟩
    refine ifF ?_
    refine ⟨_, rfl, ?_⟩
    refine ⟨_, _, _, _, rfl, rfl, .of (by assumption), rfl, ?_⟩
    refine ⟨_, _, rfl, .inr (.of h2), ?_⟩
    refine ⟨_, _, rfl, rfl, ?_⟩
    refine ⟨_, rfl, ?_⟩
    refine ifN (by simp; omega) ?_
    refine ⟨_, rfl, ?_⟩
    refine ⟨_, _, _, _, rfl, rfl, .of (by assumption), rfl, ?_⟩
    refine ⟨_, _, rfl, .of h2, ?_⟩
    refine for_it walk_enumT (fun i σ H2 => Same H H2 ∧ ∃ o1 o2, σ = [some (.ref t), o1, o2]) ⟨Same.refl _, none, none, rfl⟩ (fun i σ H2 _ p => .of (p.1 _ _ h2)) (fun i x σ H2 H3 hi p y => ?_) (fun σ H2 p => ?_)
    · obtain ⟨s1, o1, o2, rfl⟩ := p
      obtain ⟨TT, x1, x2, rfl, hT, rfl, e1, e2⟩ := y
      cases e1
      obtain ⟨a, k, rfl, ea, ek, ik⟩ := its_get h3 e2
      have s2 := s1.trans (same_new (o := .tup [.int (i : Nat), .ref a]) hT)
      refine ⟨_, _, rfl, .of upd_same, rfl, ?_⟩
      refine ⟨_, _, rfl, ?_⟩
      refine ⟨_, _, rfl, ?_⟩
      refine ⟨rfl, ?_⟩
      refine ⟨_, rfl, ?_⟩
      refine ⟨_, rfl, ?_⟩
      refine ⟨_, _, _, _, rfl, rfl, .of (s2 _ _ h1), rfl, ?_⟩
      refine ⟨_, _, _, rfl, s2 _ _ ik, ok _ (List.mem_of_getElem? ek), fun H4 s3 => ?_⟩
      have s4 := s2.trans s3
      refine ⟨_, rfl, ?_⟩
      refine ifF ?_
      refine ⟨_, rfl, ?_⟩
      refine ⟨_, _, rfl, rfl, ?_⟩
      refine ⟨_, rfl, ?_⟩
      refine ifB (fun c => ?_) (fun c => ?_)
      · have ci : 0 < i := by simpa using c
        obtain ⟨j, rfl⟩ : ∃ j, i = j + 1 := ⟨i - 1, by omega⟩
        have hj : j < as.length := by simp at hi; omega
        obtain ⟨k2, ek2, ik2⟩ := paired_get h3 (List.getElem?_eq_getElem hj)
        have lt := ris j k2 k ek2 ek
        refine ⟨_, rfl, ?_⟩
        refine ⟨_, rfl, ?_⟩
        refine ⟨_, _, _, _, rfl, rfl, .of (s4 _ _ h1), rfl, ?_⟩
        refine ⟨_, rfl, ?_⟩
        refine ⟨_, _, rfl, rfl, ?_⟩
        have ejj : (((j + 1 : Nat) : Int) - 1) = ((j : Nat) : Int) := by omega
        refine ⟨_, _, _, _, rfl, congrArg V.int ejj, .of (s4 _ _ h2), atI_nat (v := .ref as[j]) (by rw [List.getElem?_map, List.getElem?_eq_getElem hj]; rfl), ?_⟩
        refine ⟨_, _, k, k2, rfl, rfl, .of (s4 _ _ ik), .of (s4 _ _ ik2), ?_⟩
        rw [lexAt_le]
        refine ⟨_, rfl, ?_⟩
        refine ifN (decide_eq_false (List.not_le.mpr lt)) ?_
        exact ⟨s4, _, _, rfl⟩
      · refine ifF ?_
        exact ⟨s4, _, _, rfl⟩
    · exact q _ p.1
def sp_need_web : Sp := fun vs H Q _ => ∃ (t : Addr) (n : Int) (ks : List (List Int)), vs = [.ref t] ∧ TabAt H t n ks ∧ WebOk n ks ∧ ∀ H', Same H H' → Q .non H'
theorem ok_need_web (T : Txt K mg) (G_is_in : FnAt P w K mg base CX0 1 "is_in" ["value", "least", "most"] sp_is_in) (G_is_edge : FnAt P w K mg base CX0 2 "is_edge" ["value", "many"] sp_is_edge) : FnAt P w K mg base CX0 3 "need_web" ["web"] sp_need_web := by
  obtain ⟨t8, hMOST_PLACES⟩ := T.c_MOST_PLACES
  refine fn_body T.d_need_web sc_need_web (fun _ _ _ _ _ _ us hl => match us, hl with | [_], _ => rfl) ?_ (fun f cdv A outer s H vs Q E hr h => ?_)
  · rintro vs H Q E ⟨a, b, _, rfl, _⟩
    rfl
  · refine ⟨_, PSs.nox (pss_cons (ps_if (PW.pt (pw_or (pt_not (pt_val (pe_callB call_isi rfl T.b_isinstance (by decide +kernel) (pa_cons (pv 0) (pa_cons (pe_bltn rfl T.b_tuple (by decide +kernel) (v := .ty "tuple") rfl) pa_nil))))) (pw_or (pt_cmpR op_ne (pe_callB call_len_seq rfl T.b_len (by decide +kernel) (pa_cons (pv 0) pa_nil)) pe_int (nomark _)) (pw_or1 (pt_not (pt_val (pe_cf G_is_in (hr.mono (by decide)) rfl pass00 (pa_cons (pe_ix ix_tup (pv 0) pe_int (fun _ _ => rfl)) (pa_cons pe_int (pa_cons (pe_glob rfl hMOST_PLACES (v := .int 8) ⟨_, rfl⟩) pa_nil)))))))))) pss_never pss_nil)
    (pss_cons (ps_if (pt_not (pt_val (pe_callB call_isi rfl T.b_isinstance (by decide +kernel) (pa_cons (pe_ix ix_tup (pv 0) pe_int (fun _ _ => rfl)) (pa_cons (pe_bltn rfl T.b_tuple (by decide +kernel) (v := .ty "tuple") rfl) pa_nil))))) pss_never pss_nil)
    (pss_one (ps_for PassesOwn.never rfl (pi_enumT rfl T.b_enumerate (pa_cons (pe_ix ix_tup (pv 0) pe_int (fun _ _ => rfl)) pa_nil)) (pg_tup rfl (pgs_cons (pg_name (i := 1) sc_need_web.nd rfl (Or.inl rfl)) (pgs_cons (pg_name (i := 2) sc_need_web.nd rfl (Or.inl rfl)) pgs_nil)))
    (pss_one (ps_if (PW.pt (pw_or (pt_not (pt_val (pe_cf G_is_edge (hr.mono (by decide)) rfl pass00 (pa_cons (pv 2) (pa_cons (pe_ix ix_tup (pv 0) pe_int (fun _ _ => rfl)) pa_nil))))) (pw_or1 (PW.pt (pw_and (pt_cmpR op_gt (pv 1) pe_int (nomark _)) (pw_and1 (pt_cmpR (op_leT hr.units0) (pv 2) (pe_ix ix_tup (pe_ix ix_tup (pv 0) pe_int (fun _ _ => rfl)) (pe_op op_sub (pv 1) pe_int) (fun _ _ => rfl)) (nomark _)))))))) pss_never pss_nil)))))), ?_⟩
    obtain ⟨t, n, ks, rfl, ⟨r, as, h1, h2, h3⟩, ⟨n1, n2, n3, ok, ris⟩, q⟩ := h
    have hl := h3.length
    refine ⟨_, rfl, ?_⟩
    refine ⟨_, _, _, _, true, rfl, .ty _, .base (.tup (by assumption)), kit_ty (by decide +kernel), ?_⟩
    refine ⟨true, rfl, ?_⟩
    refine ifF ?_
    refine ⟨_, rfl, ?_⟩
    refine ⟨_, _, rfl, .inr (.of h1), ?_⟩
    refine ⟨rfl, ?_⟩
    refine ⟨_, rfl, ?_⟩
    refine ifF ?_
    refine ⟨_, rfl, ?_⟩
    refine ⟨_, _, _, _, rfl, rfl, .of (by assumption), rfl, ?_⟩
    refine ⟨_, _, _, rfl, ?_⟩
    refine ⟨_, rfl, ?_⟩
    refine ifN (by simp; omega) ?_
    refine ⟨_, rfl, ?_⟩
    refine ⟨_, _, _, _, rfl, rfl, .of (by assumption), rfl, ?_⟩
    refine ⟨_, _, _, _, true, rfl, .ty _, .base (.tup (by assumption)), kit_ty (by decide +kernel), ?_⟩
    refine ⟨true, rfl, ?_⟩
    refine ifF ?_
    refine ⟨_, rfl, ?_⟩
    refine ⟨_, _, _, _, rfl, rfl, .of (by assumption), rfl, ?_⟩
    refine ⟨_, _, rfl, .of h2, ?_⟩
    refine for_it walk_enumT (fun i σ H2 => Same H H2 ∧ ∃ o1 o2, σ = [some (.ref t), o1, o2]) ⟨Same.refl _, none, none, rfl⟩ (fun i σ H2 _ p => .of (p.1 _ _ h2)) (fun i x σ H2 H3 hi p y => ?_) (fun σ H2 p => ?_)
    · obtain ⟨s1, o1, o2, rfl⟩ := p
      obtain ⟨TT, x1, x2, rfl, hT, rfl, e1, e2⟩ := y
      cases e1
      obtain ⟨a, k, rfl, ea, ek, ik⟩ := its_get h3 e2
      have s2 := s1.trans (same_new (o := .tup [.int (i : Nat), .ref a]) hT)
      refine ⟨_, _, rfl, .of upd_same, rfl, ?_⟩
      refine ⟨_, _, rfl, ?_⟩
      refine ⟨_, _, rfl, ?_⟩
      refine ⟨rfl, ?_⟩
      refine ⟨_, rfl, ?_⟩
      refine ⟨_, rfl, ?_⟩
      refine ⟨_, _, _, _, rfl, rfl, .of (s2 _ _ h1), rfl, ?_⟩
      refine ⟨_, _, _, rfl, s2 _ _ ik, ok _ (List.mem_of_getElem? ek), fun H4 s3 => ?_⟩
      have s4 := s2.trans s3
      refine ⟨_, rfl, ?_⟩
      refine ifF ?_
      refine ⟨_, rfl, ?_⟩
      refine ⟨_, _, rfl, rfl, ?_⟩
      refine ⟨_, rfl, ?_⟩
      refine ifB (fun c => ?_) (fun c => ?_)
      · have ci : 0 < i := by simpa using c
        obtain ⟨j, rfl⟩ : ∃ j, i = j + 1 := ⟨i - 1, by omega⟩
        have hj : j < as.length := by simp at hi; omega
        obtain ⟨k2, ek2, ik2⟩ := paired_get h3 (List.getElem?_eq_getElem hj)
        have lt := ris j k2 k ek2 ek
        refine ⟨_, rfl, ?_⟩
        refine ⟨_, rfl, ?_⟩
        refine ⟨_, _, _, _, rfl, rfl, .of (s4 _ _ h1), rfl, ?_⟩
        refine ⟨_, rfl, ?_⟩
        refine ⟨_, _, rfl, rfl, ?_⟩
        have ejj : (((j + 1 : Nat) : Int) - 1) = ((j : Nat) : Int) := by omega
        refine ⟨_, _, _, _, rfl, congrArg V.int ejj, .of (s4 _ _ h2), atI_nat (v := .ref as[j]) (by rw [List.getElem?_map, List.getElem?_eq_getElem hj]; rfl), ?_⟩
        refine ⟨_, _, k, k2, rfl, rfl, .of (s4 _ _ ik), .of (s4 _ _ ik2), ?_⟩
        rw [lexAt_le]
        refine ⟨_, rfl, ?_⟩
        refine ifN (decide_eq_false (List.not_le.mpr lt)) ?_
        exact ⟨s4, _, _, rfl⟩
      · refine ifF ?_
        exact ⟨s4, _, _, rfl⟩
    · exact q _ p.1
def sp_need_kinds : Sp := fun vs H Q _ => ∃ (t c : Addr) (n m : Int) (ks : List (List Int)) (ns : List Int), vs = [.ref t, .int m, .ref c] ∧ TabAt H t n ks ∧ IT H c ns ∧ InR n ns ∧ ((ns.length : Nat) : Int) = m ∧ ∀ H', Same H H' → Q .non H'
theorem ok_need_kinds (T : Txt K mg) (G_is_in : FnAt P w K mg base CX0 1 "is_in" ["value", "least", "most"] sp_is_in) : FnAt P w K mg base CX0 2 "need_kinds" ["table", "many", "kinds"] sp_need_kinds := by
  refine fn_body T.d_need_kinds sc_need_kinds (fun _ _ _ _ _ _ us hl => match us, hl with | [_, _, _], _ => rfl) ?_ (fun f cdv A outer s H vs Q E hr h => ?_)
  · rintro vs H Q E ⟨a, b, _, _, _, _, rfl, _⟩
    rfl
  · refine ⟨_, PSs.nox (pss_cons (ps_if (PW.pt (pw_or (pt_not (pt_val (pe_callB call_isi rfl T.b_isinstance (by decide +kernel) (pa_cons (pv 2) (pa_cons (pe_bltn rfl T.b_tuple (by decide +kernel) (v := .ty "tuple") rfl) pa_nil))))) (pw_or1 (pt_cmpR op_ne (pe_callB call_len_seq rfl T.b_len (by decide +kernel) (pa_cons (pv 2) pa_nil)) (pv 1) (nomark _))))) pss_never pss_nil)
    (pss_one (ps_for PassesOwn.never rfl (pi_enumT rfl T.b_enumerate (pa_cons (pv 2) pa_nil)) (pg_tup rfl (pgs_cons (pg_name (i := 3) sc_need_kinds.nd rfl (Or.inl rfl)) (pgs_cons (pg_name (i := 4) sc_need_kinds.nd rfl (Or.inl rfl)) pgs_nil)))
    (pss_one (ps_if (pt_not (pt_val (pe_cf G_is_in (hr.mono (by decide)) rfl pass00 (pa_cons (pv 4) (pa_cons pe_int (pa_cons (pe_op op_sub (pe_ix ix_tup (pv 0) pe_int (fun _ _ => rfl)) pe_int) pa_nil)))))) pss_never pss_nil))))), ?_⟩
    obtain ⟨t, c, n, m, ks, ns, rfl, ⟨r, as, h1, h2, h3⟩, ic, hin, hm, q⟩ := h
    have ic' : H c = some (.tup (ns.map V.int)) := ic
    refine ⟨_, rfl, ?_⟩
    refine ⟨_, _, _, _, true, rfl, .ty _, .base (.tup (by assumption)), kit_ty (by decide +kernel), ?_⟩
    refine ⟨true, rfl, ?_⟩
    refine ifF ?_
    refine ⟨_, rfl, ?_⟩
    refine ⟨_, _, rfl, .inr (.of ic'), ?_⟩
    refine ⟨_, rfl, ?_⟩
    refine ⟨rfl, ?_⟩
    refine ⟨_, rfl, ?_⟩
    refine ifN (by simp [hm]) ?_
    refine ⟨_, rfl, ?_⟩
    refine ⟨_, _, rfl, .of ic', ?_⟩
    refine for_it walk_enumT (fun i σ H2 => Same H H2 ∧ ∃ o1 o2, σ = [some (.ref t), some (.int m), some (.ref c), o1, o2]) ⟨Same.refl _, none, none, rfl⟩ (fun i σ H2 _ p => .of (p.1 _ _ ic')) (fun i x σ H2 H3 hi p y => ?_) (fun σ H2 p => ?_)
    · obtain ⟨s1, o1, o2, rfl⟩ := p
      obtain ⟨TT, x1, x2, rfl, hT, rfl, e1, e2⟩ := y
      cases e1
      dsimp only at e2
      rw [List.getElem?_map] at e2
      obtain ⟨z, hz, rfl⟩ := Option.map_eq_some_iff.mp e2
      have hz' := hin z (List.mem_of_getElem? hz)
      have s2 := s1.trans (same_new (o := .tup [.int (i : Nat), .int z]) hT)
      refine ⟨_, _, rfl, .of upd_same, rfl, ?_⟩
      refine ⟨_, _, rfl, ?_⟩
      refine ⟨_, _, rfl, ?_⟩
      refine ⟨rfl, ?_⟩
      refine ⟨_, rfl, ?_⟩
      refine ⟨_, rfl, ?_⟩
      refine ⟨_, _, _, _, rfl, rfl, .of (s2 _ _ h1), rfl, ?_⟩
      refine ⟨_, _, rfl, rfl, ?_⟩
      refine ⟨_, _, _, rfl, ?_⟩
      refine ⟨_, rfl, ?_⟩
      refine ifN (by simp; omega) ?_
      exact ⟨s2, _, _, rfl⟩
    · exact q _ p.1
def sp_need_start : Sp := fun vs H Q _ => ∃ (t b c : Addr) (n m : Int) (ks es : List (List Int)) (ns : List Int), vs = [.ref t, .ref b, .ref c] ∧ TabAt H t n ks ∧ TabOk n ks ∧ TabAt H b m es ∧ WebOk m es ∧ IT H c ns ∧ InR n ns ∧ ((ns.length : Nat) : Int) = m ∧ ∀ H', Same H H' → Q .non H'
theorem ok_need_start (T : Txt K mg) (G_need_table : FnAt P w K mg base CX0 3 "need_table" ["table"] sp_need_table) (G_need_web : FnAt P w K mg base CX0 3 "need_web" ["web"] sp_need_web) (G_need_kinds : FnAt P w K mg base CX0 2 "need_kinds" ["table", "many", "kinds"] sp_need_kinds) :
    FnAt P w K mg base CX0 4 "need_start" ["table", "web", "kinds"] sp_need_start := by
  refine fn_body T.d_need_start sc_need_start (fun _ _ _ _ _ _ us hl => match us, hl with | [_, _, _], _ => rfl) ?_ (fun f cdv A outer s H vs Q E hr h => ?_)
  · rintro vs H Q E ⟨_, _, _, _, _, _, _, _, rfl, _⟩
    rfl
  · refine ⟨_, PSs.nox (pss_cons (ps_expr (pe_cf G_need_table (hr.mono (by decide)) rfl pass00 (pa_cons (pv 0) pa_nil)))
    (pss_cons (ps_expr (pe_cf G_need_web (hr.mono (by decide)) rfl pass00 (pa_cons (pv 1) pa_nil)))
    (pss_one (ps_expr (pe_cf G_need_kinds (hr.mono (by decide)) rfl pass00 (pa_cons (pv 0) (pa_cons (pe_ix ix_tup (pv 1) pe_int (fun _ _ => rfl)) (pa_cons (pv 2) pa_nil)))))))), ?_⟩
    obtain ⟨t, b, c, n, m, ks, es, ns, rfl, ht, tok, hb, wok, ic, hin, hm, q⟩ := h
    refine ⟨_, rfl, ?_⟩
    refine ⟨_, _, _, rfl, ht, tok, fun H1 s1 => ?_⟩
    refine ⟨_, rfl, ?_⟩
    refine ⟨_, _, _, rfl, hb.kt (KT.of s1), wok, fun H2 s2 => ?_⟩
    have s3 := s1.trans s2
    obtain ⟨r, as, w1, w2, w3⟩ := hb
    refine ⟨_, rfl, ?_⟩
    refine ⟨_, rfl, ?_⟩
    refine ⟨_, _, _, _, rfl, rfl, .of (s3 _ _ w1), rfl, ?_⟩
    refine ⟨_, rfl, ?_⟩
    refine ⟨_, _, _, _, _, _, rfl, ht.kt (KT.of s3), IT.kt (KT.of s3) ic, hin, hm, fun H4 s4 => ?_⟩
    exact q _ (s3.trans s4)
end
end K4
set_option Elab.async false
set_option linter.all false
set_option maxRecDepth 100000
set_option maxHeartbeats 4000000
/-! dicts by int tuples; the results of a pair -/
namespace K4
open PySem PySem.Spec PyProof.Rows L2 K4R
/-- a dict by int tuples, in the layer's form -/
def dI (l : List (List Int × V)) : List (List Key × V) := l.map fun p => (kI p.1, p.2)
theorem valV_dI (k : List Int) : ∀ l : List (List Int × V), valV (dI l) (kI k) = valV l k
  | [] => rfl
  | p :: r => by
    have ih := valV_dI k r
    by_cases h : p.1 = k
    · rw [valV_pos (p := p) h]
      show valV ((kI p.1, p.2) :: dI r) (kI k) = _
      rw [valV_pos (p := (kI p.1, p.2)) (congrArg kI h)]
    · rw [valV_neg (p := p) h]
      show valV ((kI p.1, p.2) :: dI r) (kI k) = _
      rw [valV_neg (p := (kI p.1, p.2)) (fun z => h (kI_inj z)), ih]
theorem putK_dI (k : List Int) (v : V) (l : List (List Int × V)) : putK (dI l) (kI k) v = dI (putK l k v) := by
  have h : ((dI l).any fun kv => decide (kv.1 = kI k)) = (l.any fun kv => decide (kv.1 = k)) := by rw [valV_any, valV_any, valV_dI]
  unfold putK
  rw [h]
  by_cases a : (l.any fun kv => decide (kv.1 = k)) = true
  · rw [if_pos a, if_pos a]
    unfold dI
    rw [List.map_map, List.map_map]
    refine List.map_congr_left fun p _ => ?_
    by_cases e : p.1 = k
    · simp [e]
    · have e2 : ¬ kI p.1 = kI k := fun z => e (kI_inj z)
      simp [e, e2]
  · rw [if_neg a, if_neg a]
    unfold dI
    rw [List.map_append]
    rfl
theorem keysI_dI (l : List (List Int × V)) : KeysI (dI l) (l.map (·.1)) := by
  unfold KeysI dI
  rw [List.map_map, List.map_map]
  rfl
/-- put a key once -/
def putU (l : List (List Int)) (k : List Int) : List (List Int) := if k ∈ l then l else l ++ [k]
theorem any_mem (l : List (List Int × V)) (k : List Int) : (l.any fun kv => decide (kv.1 = k)) = decide (k ∈ l.map (·.1)) := by
  rw [Bool.eq_iff_iff, List.any_eq_true, decide_eq_true_iff, List.mem_map]
  constructor
  · rintro ⟨x, hx, e⟩
    exact ⟨x, hx, of_decide_eq_true e⟩
  · rintro ⟨x, hx, e⟩
    exact ⟨x, hx, decide_eq_true e⟩
theorem keys_putK (k : List Int) (v : V) (l : List (List Int × V)) : (putK l k v).map (·.1) = putU (l.map (·.1)) k := by
  unfold putK putU
  rw [any_mem]
  by_cases h : k ∈ l.map (·.1)
  · rw [if_pos h, if_pos (decide_eq_true h), List.map_map]
    refine List.map_congr_left fun p _ => ?_
    by_cases e : p.1 = k
    · simp [e]
    · simp [e]
  · rw [if_neg h, if_neg (by rw [decide_eq_false h]; exact Bool.false_ne_true), List.map_append]
    rfl
theorem putU_len (l : List (List Int)) (k : List Int) : (putU l k).length ≤ l.length + 1 := by
  unfold putU
  split
  · omega
  · simp
theorem valV_isSome (l : List (List Int × V)) (k : List Int) : (valV l k).isSome = decide (k ∈ l.map (·.1)) := by rw [← valV_any, any_mem]
theorem dget {H : Hp} {d b : Addr} {l : List (List Int × V)} {k : List Int} (e : H d = some (.dT (dI l))) (hb : IT H b k) : DGet H d (.ref b) (valV l k) := by
  have h := DGet.t (H := H) (a := d) (b := b) (kvs := dI l) (k := kI k) e (by rw [kI_kV]; exact hb)
  rw [valV_dI] at h
  exact h
theorem dgetF {H : Hp} {d b : Addr} {o : Obj} {l : List (List Int × V)} {k : List Int} (e : H d = some (.frz o (.dT (dI l)))) (hb : IT H b k) : DGet H d (.ref b) (valV l k) :=
  .inr ⟨dI l, kI k, b, .inr ⟨o, e⟩, rfl, by rw [kI_kV]; exact hb, (valV_dI k l).symm⟩
theorem dput {H : Hp} {d b : Addr} {l : List (List Int × V)} {k : List Int} {v : V} (e : H d = some (.dT (dI l))) (hb : IT H b k) (hl : l.length < 10000000) : DPut H d (.ref b) v (upd H d (.dT (dI (putK l k v)))) := by
  have h := DPut.t (H := H) (a := d) (b := b) (kvs := dI l) (k := kI k) (v := v) e (by rw [kI_kV]; exact hb) (by unfold dI; rw [List.length_map, sizeLine_is]; omega)
  rw [putK_dI] at h
  exact h
/-! ### the results of the pair x, y -/
def res1 (x y : Int) (acc : List (List Int)) (k : List Int) : List (List Int) := if k.take 2 = [x, y] then putU acc (k.drop 2) else acc
def res2 (x y : Int) (acc : List (List Int)) (k : List Int) : List (List Int) := if (k.take 2).reverse = [x, y] then putU acc (k.drop 2).reverse else acc
def resU (x y : Int) (ks : List (List Int)) : List (List Int) := ks.foldl (fun acc k => res2 x y (res1 x y acc k) k) []
def resM (ks : List (List Int)) (x y : Int) : List (List Int) := (resU x y ks).mergeSort leI
theorem res1_pos {x y a b c d : Int} {acc : List (List Int)} (h : [a, b] = [x, y]) : res1 x y acc [a, b, c, d] = putU acc [c, d] := if_pos h
theorem res1_neg {x y a b c d : Int} {acc : List (List Int)} (h : ¬ [a, b] = [x, y]) : res1 x y acc [a, b, c, d] = acc := if_neg h
theorem res2_pos {x y a b c d : Int} {acc : List (List Int)} (h : [b, a] = [x, y]) : res2 x y acc [a, b, c, d] = putU acc [d, c] := if_pos h
theorem res2_neg {x y a b c d : Int} {acc : List (List Int)} (h : ¬ [b, a] = [x, y]) : res2 x y acc [a, b, c, d] = acc := if_neg h
theorem res_len (x y : Int) (acc : List (List Int)) (k : List Int) : (res2 x y (res1 x y acc k) k).length ≤ acc.length + 2 := by
  have h1 : (res1 x y acc k).length ≤ acc.length + 1 := by
    unfold res1
    split
    · exact putU_len _ _
    · omega
  have h2 : (res2 x y (res1 x y acc k) k).length ≤ (res1 x y acc k).length + 1 := by
    unfold res2
    split
    · exact putU_len _ _
    · omega
  omega
theorem resU_len' (x y : Int) : ∀ (ks acc : List (List Int)), (ks.foldl (fun acc k => res2 x y (res1 x y acc k) k) acc).length ≤ acc.length + 2 * ks.length
  | [], acc => by simp
  | k :: ks, acc => by
    have h := resU_len' x y ks (res2 x y (res1 x y acc k) k)
    have h1 := res_len x y acc k
    simp only [List.foldl_cons, List.length_cons]
    omega
theorem resU_len (x y : Int) (ks : List (List Int)) : (resU x y ks).length ≤ 2 * ks.length := by
  have h := resU_len' x y ks []
  unfold resU
  simp only [List.length_nil] at h
  omega
theorem foldl_take {α β : Type} (f : β → α → β) (b : β) {l : List α} {i : Nat} {x : α} (h : l[i]? = some x) : (l.take (i + 1)).foldl f b = f ((l.take i).foldl f b) x := by
  rw [take_succ_get h, List.foldl_append]
  rfl
end K4
set_option Elab.async false
set_option linter.all false
set_option maxRecDepth 100000
set_option maxHeartbeats 4000000
/-! results_in, _law_results -/
namespace K4
open PySem PySem.Spec PyProof.Rows L2 K4R
section
variable {P : Program} {w : World} {K : PySem.W.Frag} {mg : Str → Option Value} {base : Heap}
def sp_res : Sp := fun vs H Q _ => ∃ (t p : Addr) (n : Int) (ks : List (List Int)) (x y : Int), vs = [.ref t, .ref p] ∧ TabAt H t n ks ∧ ks.length ≤ 1000 ∧ (∀ k ∈ ks, k.length = 4) ∧ IT H p [x, y] ∧
  ∀ (l : Addr) (bs : List Addr) (H' : Hp), Same H H' → H l = none → H' l = some (.lst (bs.map V.ref)) → ITs H' bs (resM ks x y) → Q (.ref l) H'
theorem putU_mem {l : List (List Int)} {k z : List Int} (h : z ∈ putU l k) : z ∈ l ∨ z = k := by
  unfold putU at h
  split at h
  · exact .inl h
  · rcases List.mem_append.mp h with h | h
    · exact .inl h
    · exact .inr (by simpa using h)
theorem res_ne (x y : Int) : ∀ (ks acc : List (List Int)), (∀ k ∈ ks, k.length = 4) → (∀ k ∈ acc, k.length = 2) → ∀ k ∈ ks.foldl (fun acc k => res2 x y (res1 x y acc k) k) acc, k.length = 2
  | [], acc, _, h => h
  | k :: ks, acc, hk, h => by
    refine res_ne x y ks _ (fun z hz => hk z (List.mem_cons_of_mem _ hz)) fun z hz => ?_
    have h4 := hk k (List.mem_cons_self ..)
    have h1 : ∀ z ∈ res1 x y acc k, z.length = 2 := fun z hz => by
      unfold res1 at hz
      split at hz
      · rcases putU_mem hz with hz | hz
        · exact h z hz
        · rw [hz, List.length_drop, h4]
      · exact h z hz
    unfold res2 at hz
    dsimp only at hz
    split at hz
    · rcases putU_mem hz with hz | hz
      · exact h1 z hz
      · rw [hz, List.length_reverse, List.length_drop, h4]
    · exact h1 z hz
theorem res_ne' (x y : Int) (ks : List (List Int)) (h : ∀ k ∈ ks, k.length = 4) : ∀ k ∈ resU x y ks, k.length = 2 := res_ne x y ks [] h (fun k hk => by simp at hk)
theorem resM_len2 {x y : Int} {ks : List (List Int)} (h : ∀ k ∈ ks, k.length = 4) : ∀ k ∈ resM ks x y, k.length = 2 := fun k hk => res_ne' x y ks h k (List.mem_mergeSort.mp hk)
theorem four {k : List Int} (h : k.length = 4) : ∃ a b c d, k = [a, b, c, d] := by
  match k, h with
  | [a, b, c, d], _ => exact ⟨a, b, c, d, rfl⟩
theorem ok_results_in (T : Txt K mg) : FnAt P w K mg base CX0 1 "results_in" ["table", "pair"] sp_res := by
  refine fn_body T.d_results_in sc_results_in (fun _ _ _ _ _ _ us hl => match us, hl with | [_, _], _ => rfl) ?_ (fun f cdv A outer s H vs Q E hr h => ?_)
  · rintro vs H Q E ⟨_, _, _, _, _, _, rfl, _⟩
    rfl
  · refine ⟨_, PSs.nox (pss_cons (ps_set (i := 2) sc_results_in.nd rfl (Or.inl rfl) pe_dnewT)
    (pss_cons (ps_for PassesOwn.never rfl (pi_tup (pe_ix ix_tup (pv 0) pe_int (fun _ _ => rfl))) (pg_tup rfl (pgs_cons (pg_name (i := 3) sc_results_in.nd rfl (Or.inl rfl)) (pgs_cons (pg_name (i := 4) sc_results_in.nd rfl (Or.inl rfl)) (pgs_cons (pg_name (i := 5) sc_results_in.nd rfl (Or.inl rfl)) (pgs_cons (pg_name (i := 6) sc_results_in.nd rfl (Or.inl rfl)) pgs_nil)))))
    (C8.pss_cut (ps_if (pt_cmpR (op_eqD hr.units) (pe_tup (pa_cons (pv 3) (pa_cons (pv 4) pa_nil))) (pv 1) (nomark _)) (pss_one (ps_dput (hu_of hr) (pv 2) (pe_tup (pa_cons (pv 5) (pa_cons (pv 6) pa_nil))) pe_bl rfl)) pss_nil)
    (pss_one (ps_if (pt_cmpR (op_eqD hr.units) (pe_tup (pa_cons (pv 4) (pa_cons (pv 3) pa_nil))) (pv 1) (nomark _)) (pss_one (ps_dput (hu_of hr) (pv 2) (pe_tup (pa_cons (pv 6) (pa_cons (pv 5) pa_nil))) pe_bl rfl)) pss_nil))))
    (pss_one (ps_ret (pe_callB (cr_sortKeysT rfl hr.units) rfl T.b_sorted (by decide +kernel) (pa_cons (pe_bm0 PySem.F.plainAttrs_dict PySem.F.slot_dict_keys PySem.F.type_dict_keys mt_keysT (pv 2)) pa_nil)))))), ?_⟩
    obtain ⟨t, p, n, ks, x, y, rfl, ⟨r, as, h1, h2, h3⟩, hl, h4, hp, q⟩ := h
    have hl3 := h3.length
    intro d hd
    refine ⟨_, rfl, ?_⟩
    refine ⟨_, _, _, _, rfl, rfl, .of (same_new hd _ _ h1), rfl, ?_⟩
    refine ⟨_, rfl, ⟨_, .of (same_new hd _ _ h2)⟩, ?_⟩
    refine for_it (walk_tup (xs := as.map V.ref)) (fun i σ H2 => ∃ l : List (List Int × V), H2 d = some (.dT (dI l)) ∧ Same H H2 ∧ l.map (·.1) = (ks.take i).foldl (fun acc k => res2 x y (res1 x y acc k) k) [] ∧ ∃ o1 o2 o3 o4, σ = [some (.ref t), some (.ref p), some (.ref d), o1, o2, o3, o4])
      ⟨[], upd_same, same_new hd, by simp, none, none, none, none, rfl⟩ (fun i σ H2 _ pp => ?_) (fun i x0 σ H2 H3 hi pp yy => ?_) (fun σ H2 pp => ?_)
    · obtain ⟨l, ed, s1, _⟩ := pp
      exact .of (s1 _ _ h2)
    · obtain ⟨l, ed, s1, el, o1, o2, o3, o4, rfl⟩ := pp
      obtain ⟨rfl, hx⟩ := yy
      obtain ⟨a0, k, rfl, ea, ek, ik⟩ := its_get h3 hx
      have hlen : l.length ≤ 2 * i := by
        have e := congrArg List.length el
        rw [List.length_map] at e
        have e2 := resU_len' x y (ks.take i) []
        rw [← e] at e2
        simp only [List.length_nil, List.length_take] at e2
        omega
      have hi2 : i ≤ 1000 := by rw [List.length_map] at hi; omega
      obtain ⟨a, b, c, d', rfl⟩ := four (h4 k (List.mem_of_getElem? ek))
      have ik' := s1 _ _ ik
      refine ⟨_, _, rfl, .of ik', rfl, ?_⟩
      refine ⟨_, _, rfl, ?_⟩
      refine ⟨_, _, rfl, ?_⟩
      refine ⟨_, _, rfl, ?_⟩
      refine ⟨_, _, rfl, ?_⟩
      refine ⟨rfl, ?_⟩
      refine ⟨fun σ H4 => ∃ l4 : List (List Int × V), H4 d = some (.dT (dI l4)) ∧ Same H H4 ∧ l4.map (·.1) = res1 x y ((ks.take i).foldl (fun acc k => res2 x y (res1 x y acc k) k) []) [a, b, c, d'] ∧ σ = [some (.ref t), some (.ref p), some (.ref d), some (.int a), some (.int b), some (.int c), some (.int d')], ?_, ?_⟩
      · refine ⟨_, rfl, ?_⟩
        refine ⟨_, rfl, ?_⟩
        refine ⟨by show 2 ≤ sizeLine; decide, fun q1 hq1 => ?_⟩
        have s2 : Same H _ := s1.trans (same_new (o := .tup [.int a, .int b]) hq1)
        have iq : IT (upd H3 q1 (.tup [.int a, .int b])) q1 [a, b] := upd_same
        have ed2 := same_new (o := .tup [.int a, .int b]) hq1 _ _ ed
        refine ⟨_, rfl, ?_⟩
        refine ⟨_, _, iq.dp, IT.dp (IT.kt (KT.of s2) hp), shaped_encI _, shaped_encI _, ?_⟩
        rw [eqv_encI]
        refine ⟨_, rfl, ?_⟩
        refine ifB (fun e => ?_) (fun e => ?_)
        · refine ⟨_, rfl, ?_⟩
          refine ⟨_, rfl, ?_⟩
          refine ⟨_, rfl, ?_⟩
          refine ⟨by show 2 ≤ sizeLine; decide, fun q2 hq2 => ?_⟩
          have s3 : Same H _ := s2.trans (same_new (o := .tup [.int c, .int d']) hq2)
          have ed3 := same_new (o := .tup [.int c, .int d']) hq2 _ _ ed2
          have iq2 : IT (upd (upd H3 q1 (.tup [.int a, .int b])) q2 (.tup [.int c, .int d'])) q2 [c, d'] := upd_same
          refine ⟨_, _, rfl, dput ed3 iq2 (by omega), ?_⟩
          refine ⟨_, upd_same, same_to s3 hd, ?_, rfl⟩
          rw [keys_putK, el, res1_pos (of_decide_eq_true e)]
        · refine ⟨_, ed2, s2, ?_, rfl⟩
          rw [el, res1_neg (of_decide_eq_false e)]
      · rintro σ H4 ⟨l4, ed, s1, el4, rfl⟩
        have hlen4 : l4.length ≤ 2 * i + 1 := by
          have e := congrArg List.length el4
          rw [List.length_map, ← el] at e
          have e2 : (res1 x y (l.map (·.1)) [a, b, c, d']).length ≤ (l.map (·.1)).length + 1 := by
            unfold res1
            split
            · exact putU_len _ _
            · omega
          rw [List.length_map] at e2
          omega
        refine ⟨_, rfl, ?_⟩
        refine ⟨_, rfl, ?_⟩
        refine ⟨by show 2 ≤ sizeLine; decide, fun q1 hq1 => ?_⟩
        have s2 : Same H _ := s1.trans (same_new (o := .tup [.int b, .int a]) hq1)
        have iq : IT (upd H4 q1 (.tup [.int b, .int a])) q1 [b, a] := upd_same
        have ed2 := same_new (o := .tup [.int b, .int a]) hq1 _ _ ed
        refine ⟨_, rfl, ?_⟩
        refine ⟨_, _, iq.dp, IT.dp (IT.kt (KT.of s2) hp), shaped_encI _, shaped_encI _, ?_⟩
        rw [eqv_encI]
        refine ⟨_, rfl, ?_⟩
        refine ifB (fun e => ?_) (fun e => ?_)
        · refine ⟨_, rfl, ?_⟩
          refine ⟨_, rfl, ?_⟩
          refine ⟨_, rfl, ?_⟩
          refine ⟨by show 2 ≤ sizeLine; decide, fun q2 hq2 => ?_⟩
          have s3 : Same H _ := s2.trans (same_new (o := .tup [.int d', .int c]) hq2)
          have ed3 := same_new (o := .tup [.int d', .int c]) hq2 _ _ ed2
          have iq2 : IT (upd (upd H4 q1 (.tup [.int b, .int a])) q2 (.tup [.int d', .int c])) q2 [d', c] := upd_same
          refine ⟨_, _, rfl, dput ed3 iq2 (by omega), ?_⟩
          refine ⟨_, upd_same, same_to s3 hd, ?_, _, _, _, _, rfl⟩
          rw [keys_putK, el4, foldl_take _ _ ek, res2_pos (of_decide_eq_true e)]
        · refine ⟨_, ed2, s2, ?_, _, _, _, _, rfl⟩
          rw [el4, foldl_take _ _ ek, res2_neg (of_decide_eq_false e)]
    · obtain ⟨l, ed, s1, el, o1, o2, o3, o4, rfl⟩ := pp
      refine ⟨_, rfl, ?_⟩
      refine ⟨.inr (.inr (.inl ⟨rfl, .inr ⟨_, ed⟩⟩)), ?_⟩
      refine ⟨_, _, rfl, rfl, ed, fun v hv => ?_⟩
      have s2 : Same H _ := s1.trans (same_new (o := keysO v d) hv)
      have e2 : l.map (·.1) = resU x y ks := by
        rw [el, List.take_of_length_le (by rw [List.length_map]; omega)]
        rfl
      refine ⟨_, _, _, _, rfl, upd_same, same_new (o := keysO v d) hv _ _ ed, keysI_dI l, fun k hk => ?_, fun l2 bs hl2 hb => ?_⟩
      · rw [e2] at hk
        have h2 := res_ne' x y ks h4 k hk
        rintro rfl
        cases h2
      · rw [e2] at hb
        exact q l2 bs _ (s2.trans (same_new hl2)) (same_none s2 hl2) upd_same (ITs.kt (KT.of (same_new hl2)) hb)
theorem ok_law_results (T : Txt K mg) : FnAt P w K mg base CX0 1 "_law_results" ["_law_table_here", "_law_pair"] sp_res := by
  refine fn_body T.d_law_results sc_law_results (fun _ _ _ _ _ _ us hl => match us, hl with | [_, _], _ => rfl) ?_ (fun f cdv A outer s H vs Q E hr h => ?_)
  · rintro vs H Q E ⟨_, _, _, _, _, _, rfl, _⟩
    rfl
  · refine ⟨_, PSs.nox (pss_cons (ps_set (i := 2) sc_law_results.nd rfl (Or.inl rfl) pe_dnewT)
    (pss_cons (ps_for PassesOwn.never rfl (pi_tup (pe_ix ix_tup (pv 0) pe_int (fun _ _ => rfl))) (pg_tup rfl (pgs_cons (pg_name (i := 3) sc_law_results.nd rfl (Or.inl rfl)) (pgs_cons (pg_name (i := 4) sc_law_results.nd rfl (Or.inl rfl)) (pgs_cons (pg_name (i := 5) sc_law_results.nd rfl (Or.inl rfl)) (pgs_cons (pg_name (i := 6) sc_law_results.nd rfl (Or.inl rfl)) pgs_nil)))))
    (C8.pss_cut (ps_if (pt_cmpR (op_eqD hr.units) (pv 1) (pe_tup (pa_cons (pv 3) (pa_cons (pv 4) pa_nil))) (nomark _)) (pss_one (ps_dput (hu_of hr) (pv 2) (pe_tup (pa_cons (pv 5) (pa_cons (pv 6) pa_nil))) pe_bl rfl)) pss_nil)
    (pss_one (ps_if (pt_cmpR (op_eqD hr.units) (pv 1) (pe_tup (pa_cons (pv 4) (pa_cons (pv 3) pa_nil))) (nomark _)) (pss_one (ps_dput (hu_of hr) (pv 2) (pe_tup (pa_cons (pv 6) (pa_cons (pv 5) pa_nil))) pe_bl rfl)) pss_nil))))
    (pss_one (ps_ret (pe_callB (cr_sortKeysT rfl hr.units) rfl T.b_sorted (by decide +kernel) (pa_cons (pe_bm0 PySem.F.plainAttrs_dict PySem.F.slot_dict_keys PySem.F.type_dict_keys mt_keysT (pv 2)) pa_nil)))))), ?_⟩
    obtain ⟨t, p, n, ks, x, y, rfl, ⟨r, as, h1, h2, h3⟩, hl, h4, hp, q⟩ := h
    have hl3 := h3.length
    intro d hd
    refine ⟨_, rfl, ?_⟩
    refine ⟨_, _, _, _, rfl, rfl, .of (same_new hd _ _ h1), rfl, ?_⟩
    refine ⟨_, rfl, ⟨_, .of (same_new hd _ _ h2)⟩, ?_⟩
    refine for_it (walk_tup (xs := as.map V.ref)) (fun i σ H2 => ∃ l : List (List Int × V), H2 d = some (.dT (dI l)) ∧ Same H H2 ∧ l.map (·.1) = (ks.take i).foldl (fun acc k => res2 x y (res1 x y acc k) k) [] ∧ ∃ o1 o2 o3 o4, σ = [some (.ref t), some (.ref p), some (.ref d), o1, o2, o3, o4])
      ⟨[], upd_same, same_new hd, by simp, none, none, none, none, rfl⟩ (fun i σ H2 _ pp => ?_) (fun i x0 σ H2 H3 hi pp yy => ?_) (fun σ H2 pp => ?_)
    · obtain ⟨l, ed, s1, _⟩ := pp
      exact .of (s1 _ _ h2)
    · obtain ⟨l, ed, s1, el, o1, o2, o3, o4, rfl⟩ := pp
      obtain ⟨rfl, hx⟩ := yy
      obtain ⟨a0, k, rfl, ea, ek, ik⟩ := its_get h3 hx
      have hlen : l.length ≤ 2 * i := by
        have e := congrArg List.length el
        rw [List.length_map] at e
        have e2 := resU_len' x y (ks.take i) []
        rw [← e] at e2
        simp only [List.length_nil, List.length_take] at e2
        omega
      have hi2 : i ≤ 1000 := by rw [List.length_map] at hi; omega
      obtain ⟨a, b, c, d', rfl⟩ := four (h4 k (List.mem_of_getElem? ek))
      have ik' := s1 _ _ ik
      refine ⟨_, _, rfl, .of ik', rfl, ?_⟩
      refine ⟨_, _, rfl, ?_⟩
      refine ⟨_, _, rfl, ?_⟩
      refine ⟨_, _, rfl, ?_⟩
      refine ⟨_, _, rfl, ?_⟩
      refine ⟨rfl, ?_⟩
      refine ⟨fun σ H4 => ∃ l4 : List (List Int × V), H4 d = some (.dT (dI l4)) ∧ Same H H4 ∧ l4.map (·.1) = res1 x y ((ks.take i).foldl (fun acc k => res2 x y (res1 x y acc k) k) []) [a, b, c, d'] ∧ σ = [some (.ref t), some (.ref p), some (.ref d), some (.int a), some (.int b), some (.int c), some (.int d')], ?_, ?_⟩
      · refine ⟨_, rfl, ?_⟩
        refine ⟨_, rfl, ?_⟩
        refine ⟨_, rfl, ?_⟩
        refine ⟨by show 2 ≤ sizeLine; decide, fun q1 hq1 => ?_⟩
        have s2 : Same H _ := s1.trans (same_new (o := .tup [.int a, .int b]) hq1)
        have iq : IT (upd H3 q1 (.tup [.int a, .int b])) q1 [a, b] := upd_same
        have ed2 := same_new (o := .tup [.int a, .int b]) hq1 _ _ ed
        refine ⟨_, _, IT.dp (IT.kt (KT.of s2) hp), iq.dp, shaped_encI _, shaped_encI _, ?_⟩
        rw [eqv_encI]
        refine ⟨_, rfl, ?_⟩
        refine ifB (fun e => ?_) (fun e => ?_)
        · refine ⟨_, rfl, ?_⟩
          refine ⟨_, rfl, ?_⟩
          refine ⟨_, rfl, ?_⟩
          refine ⟨by show 2 ≤ sizeLine; decide, fun q2 hq2 => ?_⟩
          have s3 : Same H _ := s2.trans (same_new (o := .tup [.int c, .int d']) hq2)
          have ed3 := same_new (o := .tup [.int c, .int d']) hq2 _ _ ed2
          have iq2 : IT (upd (upd H3 q1 (.tup [.int a, .int b])) q2 (.tup [.int c, .int d'])) q2 [c, d'] := upd_same
          refine ⟨_, _, rfl, dput ed3 iq2 (by omega), ?_⟩
          refine ⟨_, upd_same, same_to s3 hd, ?_, rfl⟩
          rw [keys_putK, el, res1_pos (of_decide_eq_true e).symm]
        · refine ⟨_, ed2, s2, ?_, rfl⟩
          rw [el, res1_neg (fun z => of_decide_eq_false e z.symm)]
      · rintro σ H4 ⟨l4, ed, s1, el4, rfl⟩
        have hlen4 : l4.length ≤ 2 * i + 1 := by
          have e := congrArg List.length el4
          rw [List.length_map, ← el] at e
          have e2 : (res1 x y (l.map (·.1)) [a, b, c, d']).length ≤ (l.map (·.1)).length + 1 := by
            unfold res1
            split
            · exact putU_len _ _
            · omega
          rw [List.length_map] at e2
          omega
        refine ⟨_, rfl, ?_⟩
        refine ⟨_, rfl, ?_⟩
        refine ⟨_, rfl, ?_⟩
        refine ⟨by show 2 ≤ sizeLine; decide, fun q1 hq1 => ?_⟩
        have s2 : Same H _ := s1.trans (same_new (o := .tup [.int b, .int a]) hq1)
        have iq : IT (upd H4 q1 (.tup [.int b, .int a])) q1 [b, a] := upd_same
        have ed2 := same_new (o := .tup [.int b, .int a]) hq1 _ _ ed
        refine ⟨_, _, IT.dp (IT.kt (KT.of s2) hp), iq.dp, shaped_encI _, shaped_encI _, ?_⟩
        rw [eqv_encI]
        refine ⟨_, rfl, ?_⟩
        refine ifB (fun e => ?_) (fun e => ?_)
        · refine ⟨_, rfl, ?_⟩
          refine ⟨_, rfl, ?_⟩
          refine ⟨_, rfl, ?_⟩
          refine ⟨by show 2 ≤ sizeLine; decide, fun q2 hq2 => ?_⟩
          have s3 : Same H _ := s2.trans (same_new (o := .tup [.int d', .int c]) hq2)
          have ed3 := same_new (o := .tup [.int d', .int c]) hq2 _ _ ed2
          have iq2 : IT (upd (upd H4 q1 (.tup [.int b, .int a])) q2 (.tup [.int d', .int c])) q2 [d', c] := upd_same
          refine ⟨_, _, rfl, dput ed3 iq2 (by omega), ?_⟩
          refine ⟨_, upd_same, same_to s3 hd, ?_, _, _, _, _, rfl⟩
          rw [keys_putK, el4, foldl_take _ _ ek, res2_pos (of_decide_eq_true e).symm]
        · refine ⟨_, ed2, s2, ?_, _, _, _, _, rfl⟩
          rw [el4, foldl_take _ _ ek, res2_neg (fun z => of_decide_eq_false e z.symm)]
    · obtain ⟨l, ed, s1, el, o1, o2, o3, o4, rfl⟩ := pp
      refine ⟨_, rfl, ?_⟩
      refine ⟨.inr (.inr (.inl ⟨rfl, .inr ⟨_, ed⟩⟩)), ?_⟩
      refine ⟨_, _, rfl, rfl, ed, fun v hv => ?_⟩
      have s2 : Same H _ := s1.trans (same_new (o := keysO v d) hv)
      have e2 : l.map (·.1) = resU x y ks := by
        rw [el, List.take_of_length_le (by rw [List.length_map]; omega)]
        rfl
      refine ⟨_, _, _, _, rfl, upd_same, same_new (o := keysO v d) hv _ _ ed, keysI_dI l, fun k hk => ?_, fun l2 bs hl2 hb => ?_⟩
      · rw [e2] at hk
        have h2 := res_ne' x y ks h4 k hk
        rintro rfl
        cases h2
      · rw [e2] at hb
        exact q l2 bs _ (s2.trans (same_new hl2)) (same_none s2 hl2) upd_same (ITs.kt (KT.of (same_new hl2)) hb)
end
end K4
set_option Elab.async false
set_option linter.all false
set_option maxRecDepth 100000
set_option maxHeartbeats 4000000
/-! moves_in, moved, _law_moves -/
namespace K4
open PySem PySem.Spec PyProof.Rows L2 K4R
/-! ### the model -/
def gi (s : List Int) (i : Int) : Int := s.getD i.toNat 0
theorem atI_ints {s : List Int} {i : Int} (h0 : 0 ≤ i) (h1 : i < s.length) : atI (s.map V.int) i = some (.int (gi s i)) := by
  obtain ⟨j, rfl⟩ := Int.eq_ofNat_of_zero_le h0
  have hj : j < s.length := by omega
  refine atI_nat ?_
  rw [List.getElem?_map, List.getElem?_eq_getElem hj]
  unfold gi
  rw [Int.toNat_natCast, List.getD_eq_getElem?_getD, List.getElem?_eq_getElem hj]
  rfl
/-- the moves along the edge e -/
def movesE (ks : List (List Int)) (s e : List Int) : List (List Int × List Int) := (resM ks (gi s (gi e 0)) (gi s (gi e 1))).map fun p => (e, p)
def movesM (ks es : List (List Int)) (s : List Int) : List (List Int × List Int) := (es.map (movesE ks s)).flatten
def movedM (s : List Int) (mv : List Int × List Int) : List Int := (s.set (gi mv.1 0).toNat (gi mv.2 0)).set (gi mv.1 1).toNat (gi mv.2 1)
def succ (ks es : List (List Int)) (s : List Int) : List (List Int) := (movesM ks es s).map (movedM s)
/-- a table and a web as the law draws them -/
structure Ok (n m : Int) (ks es : List (List Int)) : Prop where
  tab : TabOk n ks
  web : WebOk m es
  n4 : n ≤ 4
  m4 : m ≤ 4
  kl : ks.length ≤ 5
  el : es.length ≤ 6
/-- a start of it -/
def SOk (n m : Int) (s : List Int) : Prop := InR n s ∧ ((s.length : Nat) : Int) = m
section
variable {n m : Int} {ks es : List (List Int)} {s : List Int}
theorem Ok.rule4 (o : Ok n m ks es) : ∀ k ∈ ks, k.length = 4 := fun k hk => by
  obtain ⟨a, b, c, d, rfl, _⟩ := o.tab.2.2.2.1 k hk
  rfl
theorem resM_len (x y : Int) : (resM ks x y).length ≤ 2 * ks.length := by
  unfold resM
  rw [List.length_mergeSort]
  exact resU_len x y ks
theorem movesE_len (o : Ok n m ks es) (e : List Int) : (movesE ks s e).length ≤ 10 := by
  unfold movesE
  rw [List.length_map]
  have h := resM_len (ks := ks) (gi s (gi e 0)) (gi s (gi e 1))
  have h2 := o.kl
  omega
theorem flat_len {f : List Int → List (List Int × List Int)} (hf : ∀ e, (f e).length ≤ 10) : ∀ es : List (List Int), (es.map f).flatten.length ≤ 10 * es.length
  | [] => by simp
  | e :: es => by
    have h1 := hf e
    have h2 := flat_len hf es
    simp only [List.map_cons, List.flatten_cons, List.length_append, List.length_cons]
    omega
theorem movesM_len (o : Ok n m ks es) (j : Nat) : (movesM ks (es.take j) s).length ≤ 60 := by
  have h := flat_len (f := movesE ks s) (movesE_len o) (es.take j)
  have h2 := o.el
  have h3 : (es.take j).length ≤ es.length := by rw [List.length_take]; omega
  unfold movesM
  omega
theorem movesM_len' (o : Ok n m ks es) : (movesM ks es s).length ≤ 60 := by
  have h := movesM_len (s := s) o es.length
  rwa [List.take_of_length_le (Nat.le_refl _)] at h
theorem movesM_snoc {j : Nat} {e : List Int} (h : es[j]? = some e) : movesM ks (es.take (j + 1)) s = movesM ks (es.take j) s ++ movesE ks s e := by
  unfold movesM
  rw [take_succ_get h, List.map_append, List.flatten_append]
  simp
theorem putU_in {l : List (List Int)} {k : List Int} {q : List Int → Prop} (h : ∀ z ∈ l, q z) (hk : q k) : ∀ z ∈ putU l k, q z := fun z hz => by
  rcases putU_mem hz with hz | hz
  · exact h z hz
  · rw [hz]; exact hk
theorem res_in (x y : Int) : ∀ (ks acc : List (List Int)), (∀ k ∈ ks, InR n k) → (∀ k ∈ acc, InR n k) → ∀ k ∈ ks.foldl (fun acc k => res2 x y (res1 x y acc k) k) acc, InR n k
  | [], acc, _, h => h
  | k :: ks, acc, hk, h => by
    refine res_in x y ks _ (fun z hz => hk z (List.mem_cons_of_mem _ hz)) ?_
    have h4 := hk k (List.mem_cons_self ..)
    have h5 : InR n (k.drop 2) := fun z hz => h4 z (List.mem_of_mem_drop hz)
    have h6 : InR n (k.drop 2).reverse := fun z hz => h5 z (List.mem_reverse.mp hz)
    have h1 : ∀ z ∈ res1 x y acc k, InR n z := by
      unfold res1
      split
      · exact putU_in h h5
      · exact h
    show ∀ z ∈ res2 x y (res1 x y acc k) k, InR n z
    unfold res2
    split
    · exact putU_in h1 h6
    · exact h1
theorem resM_in (o : Ok n m ks es) {x y : Int} : ∀ k ∈ resM ks x y, InR n k := fun k hk =>
  res_in x y ks [] (fun z hz => by obtain ⟨a, b, c, d, e, h, _⟩ := o.tab.2.2.2.1 z hz; exact h) (fun k hk => by simp at hk) k (List.mem_mergeSort.mp hk)
theorem gi_in {k : List Int} {i : Int} (h : InR n k) (h0 : 0 ≤ i) (h1 : i < k.length) : 0 ≤ gi k i ∧ gi k i < n := by
  obtain ⟨j, rfl⟩ := Int.eq_ofNat_of_zero_le h0
  have hj : j < k.length := by omega
  unfold gi
  rw [Int.toNat_natCast, List.getD_eq_getElem?_getD, List.getElem?_eq_getElem hj]
  exact h _ (List.getElem_mem hj)
theorem set_in {k : List Int} {i : Nat} {x : Int} (h : InR n k) (hx : 0 ≤ x ∧ x < n) : InR n (k.set i x) := fun z hz => by
  rcases List.mem_or_eq_of_mem_set hz with hz | rfl
  · exact h z hz
  · exact hx
theorem mem_movesM (o : Ok n m ks es) {mv : List Int × List Int} (h : mv ∈ movesM ks es s) : EdgeOk m mv.1 ∧ InR n mv.2 ∧ mv.2.length = 2 := by
  unfold movesM at h
  obtain ⟨l, hl, hm⟩ := List.mem_flatten.mp h
  obtain ⟨e, he, rfl⟩ := List.mem_map.mp hl
  unfold movesE at hm
  obtain ⟨p, hp, rfl⟩ := List.mem_map.mp hm
  exact ⟨o.web.2.2.2.1 e he, resM_in o p hp, resM_len2 o.rule4 p hp⟩
theorem succ_ok (o : Ok n m ks es) (hs : SOk n m s) : ∀ z ∈ succ ks es s, SOk n m z := fun z hz => by
  unfold succ at hz
  obtain ⟨mv, hm, rfl⟩ := List.mem_map.mp hz
  obtain ⟨h1, h2, h3⟩ := mem_movesM o hm
  unfold movedM
  refine ⟨set_in (set_in hs.1 (gi_in h2 (by decide) (by rw [h3]; decide))) (gi_in h2 (by decide) (by rw [h3]; decide)), ?_⟩
  rw [List.length_set, List.length_set]
  exact hs.2
theorem succ_len (o : Ok n m ks es) : (succ ks es s).length ≤ 60 := by
  unfold succ
  rw [List.length_map]
  exact movesM_len' o
end
/-! ### the walk -/
/-- a pair of an edge and a pair of kinds -/
def MvT (H : Hp) (a : Addr) (mv : List Int × List Int) : Prop := ∃ x y, H a = some (.tup [.ref x, .ref y]) ∧ IT H x mv.1 ∧ IT H y mv.2
theorem MvT.kt {H H' : Hp} {a : Addr} {mv : List Int × List Int} (k : KT H H') (h : MvT H a mv) : MvT H' a mv := let ⟨x, y, h1, h2, h3⟩ := h; ⟨x, y, k _ _ h1, IT.kt k h2, IT.kt k h3⟩
theorem mvs_kt {H H' : Hp} {as : List Addr} {ms : List (List Int × List Int)} (k : KT H H') (h : Paired (MvT H) as ms) : Paired (MvT H') as ms := Paired.mono (fun _ _ q => MvT.kt k q) h
/-- the new list holds what F tells -/
def RP {β : Type} (F : Hp → Addr → β → Prop) (L : Nat → List β) : Nat → List V → Hp → Prop := fun i acc H => ∃ as, acc = as.map V.ref ∧ Paired (F H) as (L i)
theorem RP.st {β : Type} {F : Hp → Addr → β → Prop} {L : Nat → List β} (hF : ∀ H H' a b, KT H H' → F H a b → F H' a b) : StR (RP F L) := fun _ _ _ _ k ⟨as, e, h⟩ => ⟨as, e, Paired.mono (fun _ _ q => hF _ _ _ _ k q) h⟩
theorem RP.zero {β : Type} {F : Hp → Addr → β → Prop} {L : Nat → List β} {H : Hp} (h : L 0 = []) : RP F L 0 [] H := ⟨[], rfl, by rw [h]; exact .nil⟩
theorem RP.snoc {β : Type} {F : Hp → Addr → β → Prop} {L : Nat → List β} (hF : ∀ H H' a b, KT H H' → F H a b → F H' a b) {H H' : Hp} {i : Nat} {acc : List V} {a : Addr} {k : β} (h : RP F L i acc H) (s : KT H H') (hk : F H' a k) (e : L (i + 1) = L i ++ [k]) : RP F L (i + 1) (acc ++ [.ref a]) H' := by
  obtain ⟨as, rfl, h⟩ := h
  refine ⟨as ++ [a], by simp, ?_⟩
  rw [e]
  exact (Paired.mono (fun _ _ q => hF _ _ _ _ s q) h).snoc hk
section
variable {P : Program} {w : World} {K : PySem.W.Frag} {mg : Str → Option Value} {base : Heap}
def sp_moves : Sp := fun vs H Q _ => ∃ (t b c : Addr) (n m : Int) (ks es : List (List Int)) (s : List Int), vs = [.ref t, .ref b, .ref c] ∧ TabAt H t n ks ∧ TabAt H b m es ∧ IT H c s ∧ Ok n m ks es ∧ SOk n m s ∧
  ∀ (l : Addr) (as : List Addr) (H' : Hp), Same H H' → H l = none → H' l = some (.lst (as.map V.ref)) → Paired (MvT H') as (movesM ks es s) → Q (.ref l) H'
theorem ok_moves_in (T : Txt K mg) (G_results_in : FnAt P w K mg base CX0 1 "results_in" ["table", "pair"] sp_res) : FnAt P w K mg base CX0 2 "moves_in" ["table", "web", "kinds"] sp_moves := by
  refine fn_body T.d_moves_in sc_moves_in (fun _ _ _ _ _ _ us hl => match us, hl with | [_, _, _], _ => rfl) ?_ (fun f cdv A outer s H vs Q E hr h => ?_)
  · rintro vs H Q E ⟨_, _, _, _, _, _, _, _, rfl, _⟩
    rfl
  · refine ⟨_, PSs.nox (pss_cons (ps_set (i := 3) sc_moves_in.nd rfl (Or.inl rfl) (pe_lst pa_nil))
    (pss_cons (ps_for PassesOwn.never rfl (pi_tup (pe_ix ix_tup (pv 1) pe_int (fun _ _ => rfl))) (pg_name (i := 4) sc_moves_in.nd rfl (Or.inr rfl))
    (pss_one (ps_set (i := 3) sc_moves_in.nd rfl (Or.inl rfl) (pe_op op_cat (pv 3) (pe_lc (own := [("pair", 5)]) rfl sc_moves_in.nd (pi_list (pe_cf G_results_in (hr.mono (by decide)) rfl pass00 (pa_cons (pv 0) (pa_cons (pe_tup (pa_cons (pe_ix ix_tup (pv 2) (pe_ix ix_tup (pv 4) pe_int (fun _ _ => rfl)) (fun _ _ => rfl)) (pa_cons (pe_ix ix_tup (pv 2) (pe_ix ix_tup (pv 4) pe_int (fun _ _ => rfl)) (fun _ _ => rfl)) pa_nil))) pa_nil)))) (blkOk_by (N := N_moves_in) (sc := defScope s_moves_in) (by decide +kernel)) (fun _ _ _ _ _ => (pg_name (i := 5) sc_moves_in.nd rfl (Or.inl rfl))) (fun _ _ _ _ _ => pts_nil) (fun _ _ _ _ _ => (pe_tup (pa_cons (pv 4) (pa_cons (pv 5) pa_nil)))))))))
    (pss_one (ps_ret (pv 3))))), ?_⟩
    obtain ⟨t, b, c, n, m, ks, es, s, rfl, ht, ⟨r, as, h1, h2, h3⟩, hc, o, so, q⟩ := h
    have hl3 := h3.length
    refine ⟨Nat.zero_le _, fun l0 hl0 => ?_⟩
    refine ⟨_, rfl, ?_⟩
    refine ⟨_, _, _, _, rfl, rfl, .of (same_new hl0 _ _ h1), rfl, ?_⟩
    refine ⟨_, rfl, ⟨_, .of (same_new hl0 _ _ h2)⟩, ?_⟩
    refine for_it (walk_tup (xs := as.map V.ref)) (fun i σ H2 => Same H H2 ∧ ∃ l bs o4, H l = none ∧ H2 l = some (.lst (bs.map V.ref)) ∧ Paired (MvT H2) bs (movesM ks (es.take i) s) ∧ σ = [some (.ref t), some (.ref b), some (.ref c), some (.ref l), o4, none])
      ⟨same_new hl0, l0, [], none, hl0, upd_same, .nil, rfl⟩ (fun i σ H2 _ pp => .of (pp.1 _ _ h2)) (fun i x0 σ H2 H3 hi pp yy => ?_) (fun σ H2 pp => ?_)
    · obtain ⟨s1, l, bs, o4, hlN, el, hb, rfl⟩ := pp
      obtain ⟨rfl, hx⟩ := yy
      obtain ⟨a0, e, rfl, ea, ee, ie⟩ := its_get h3 hx
      obtain ⟨a, b', rfl, hin, hab⟩ := o.web.2.2.2.1 e (List.mem_of_getElem? ee)
      have ha := hin a (by simp)
      have hb' := hin b' (by simp)
      have hsl := so.2
      have ie' := s1 _ _ ie
      have hc' : H3 c = some (.tup (s.map V.int)) := s1 _ _ hc
      refine ⟨_, rfl, ?_⟩
      refine ⟨_, rfl, ?_⟩
      refine ⟨_, rfl, ?_⟩
      refine ⟨_, rfl, ?_⟩
      refine ⟨_, _, _, _, rfl, rfl, .of ie', rfl, ?_⟩
      refine ⟨_, _, _, _, rfl, rfl, .of hc', atI_ints (by omega) (by omega), ?_⟩
      refine ⟨_, rfl, ?_⟩
      refine ⟨_, rfl, ?_⟩
      refine ⟨_, _, _, _, rfl, rfl, .of ie', rfl, ?_⟩
      refine ⟨_, _, _, _, rfl, rfl, .of hc', atI_ints (by omega) (by omega), ?_⟩
      refine ⟨by show 2 ≤ sizeLine; decide, fun q1 hq1 => ?_⟩
      have s2 : Same H _ := s1.trans (same_new (o := .tup [.int (gi s a), .int (gi s b')]) hq1)
      refine ⟨_, _, _, _, _, _, rfl, ht.kt (KT.of s2), by have := o.kl; omega, o.rule4, upd_same, fun l2 bs2 H4 s4 hl2N el2 hb2 => ?_⟩
      refine ⟨_, rfl, ⟨_, .of el2⟩, ?_⟩
      intro D hD
      have s5 : Same H3 H4 := (same_new (o := .tup [.int (gi s a), .int (gi s b')]) hq1).trans s4
      refine lc_it (walk_list (xs := bs2.map V.ref)) (PvLc H4 D (RP MvT fun i => ((resM ks (gi s a) (gi s b')).take i).map fun p => ([a, b'], p))) (PvLc.zero (RP.st fun _ _ _ _ => MvT.kt) hD (RP.zero rfl)) (fun i H2 _ p => ?_) (fun i x H2 H3 hi p y => ?_) (fun H2 p => ?_)
      · obtain ⟨acc, eD, hl, s1, hr⟩ := p
        exact .of (s1 _ _ el2)
      · obtain ⟨acc, eD, hl, s6, hr⟩ := p
        obtain ⟨rfl, hx⟩ := y
        obtain ⟨a1, k, rfl, ea1, ek, ik⟩ := its_get hb2 hx
        refine ⟨rfl, ?_⟩
        refine ⟨_, rfl, ?_⟩
        refine ⟨_, rfl, ?_⟩
        refine ⟨by show 2 ≤ sizeLine; decide, fun q2 hq2 => ?_⟩
        have hi' : i < 10000000 := by
          have e1 := hb2.length
          have e2 := resM_len (ks := ks) (gi s a) (gi s b')
          have e3 := o.kl
          rw [List.length_map] at hi
          omega
        have s7 := same_new (o := .tup [.ref a0, .ref a1]) hq2
        have g1 : IT (upd H3 q2 (.tup [.ref a0, .ref a1])) a0 [a, b'] := s7 _ _ (s6 _ _ (s5 _ _ ie'))
        have g2 : IT (upd H3 q2 (.tup [.ref a0, .ref a1])) a1 k := s7 _ _ (s6 _ _ ik)
        have mv : MvT (upd H3 q2 (.tup [.ref a0, .ref a1])) q2 ([a, b'], k) := ⟨a0, a1, upd_same, g1, g2⟩
        refine PvLc.put (RP.st fun _ _ _ _ => MvT.kt) hD eD hl s6 s7 (RP.snoc (F := MvT) (fun _ _ _ _ => MvT.kt) hr (KT.of s7) mv ?_) hi'
        rw [take_succ_get ek, List.map_append]
        rfl
      · obtain ⟨acc, eD, hl, s6, cs, rfl, hr⟩ := p
        have s7 : Same H H2 := s1.trans (s5.trans s6)
        have hb3 := mvs_kt (KT.of (s5.trans s6)) hb
        have elen := hb3.length
        have e2 := hr.length
        refine ⟨_, _, _, _, rfl, rfl, s6 _ _ (s5 _ _ el), eD, ?_, fun p hp => ?_⟩
        · have e1 := movesM_len (s := s) o i
          have e3 := resM_len (ks := ks) (gi s a) (gi s b')
          have e4 := o.kl
          dsimp only at e2
          rw [List.length_map, List.length_take] at e2
          rw [List.length_map, List.length_map, sizeLine_is]
          omega
        · rw [← List.map_append]
          have s8 := same_new (o := .lst ((bs ++ cs).map V.ref)) hp
          refine ⟨s7.trans s8, p, bs ++ cs, some (.ref a0), same_none s7 hp, upd_same, ?_, rfl⟩
          rw [movesM_snoc ee]
          refine mvs_kt (KT.of s8) (paired_append hb3 ?_)
          have e5 : (List.take (bs2.map V.ref).length (resM ks (gi s a) (gi s b'))) = resM ks (gi s a) (gi s b') := List.take_of_length_le (by rw [List.length_map]; have := hb2.length; omega)
          dsimp only at hr
          rw [e5] at hr
          exact hr
    · obtain ⟨s1, l, bs, o4, hlN, el, hb, rfl⟩ := pp
      rw [List.take_of_length_le (by rw [List.length_map]; omega)] at hb
      refine ⟨_, rfl, ?_⟩
      exact q l bs _ s1 hlN el hb
end
end K4
set_option Elab.async false
set_option linter.all false
set_option maxRecDepth 100000
set_option maxHeartbeats 4000000
/-! moved, _law_moves -/
namespace K4
open PySem PySem.Spec PyProof.Rows L2 K4R
theorem ixN_in {n : Nat} {i : Int} (h0 : 0 ≤ i) (h1 : i < n) : ixN n i = some i.toNat := by
  unfold ixN
  rw [if_pos h0, if_pos h1]
theorem map_set (s : List Int) (j : Nat) (x : Int) : (s.map V.int).set j (.int x) = (s.set j x).map V.int := by rw [List.map_set]
theorem two {k : List Int} (h : k.length = 2) : ∃ a b, k = [a, b] := by
  match k, h with
  | [a, b], _ => exact ⟨a, b, rfl⟩
/-- the states along a move -/
def cur (s : List Int) (a x b y : Int) : Nat → List Int
  | 0 => s
  | 1 => s.set a.toNat x
  | _ => (s.set a.toNat x).set b.toNat y
theorem cur_len (s : List Int) (a x b y : Int) (i : Nat) : (cur s a x b y i).length = s.length := by
  unfold cur
  split <;> simp
/-- by place -/
def putP (s : List Int) (a x b y : Int) (k : Nat) : Int := if (k : Int) = a then x else if (k : Int) = b then y else gi s k
theorem putP_list {s : List Int} {a x b y : Int} (ha : 0 ≤ a) (hab : a < b) (hb : b < s.length) : (List.range s.length).map (putP s a x b y) = (s.set a.toNat x).set b.toNat y := by
  apply List.ext_getElem?
  intro k
  rw [List.getElem?_map, List.getElem?_set, List.getElem?_set]
  by_cases hk : k < s.length
  · rw [List.getElem?_range hk]
    have e : s[k]? = some (gi s k) := by
      unfold gi
      rw [Int.toNat_natCast, List.getD_eq_getElem?_getD, List.getElem?_eq_getElem hk]
      rfl
    show some (putP s a x b y k) = _
    unfold putP
    by_cases h1 : (k : Int) = a
    · rw [if_pos h1, if_neg (by omega), if_pos (by omega), if_pos (by omega)]
    · rw [if_neg h1]
      by_cases h2 : (k : Int) = b
      · rw [if_pos h2, if_pos (by omega), if_pos (by rw [List.length_set]; omega)]
      · rw [if_neg h2, if_neg (by omega), if_neg (by omega), e]
  · rw [List.getElem?_eq_none (by rw [List.length_range]; omega), if_neg (by omega), if_neg (by omega), List.getElem?_eq_none (by omega)]
    rfl
section
variable {P : Program} {w : World} {K : PySem.W.Frag} {mg : Str → Option Value} {base : Heap}
def sp_moved : Sp := fun vs H Q _ => ∃ (c v : Addr) (m : Int) (s : List Int) (mv : List Int × List Int), vs = [.ref c, .ref v] ∧ IT H c s ∧ MvT H v mv ∧ EdgeOk m mv.1 ∧ mv.2.length = 2 ∧ ((s.length : Nat) : Int) = m ∧ m ≤ 8 ∧
  ∀ (p : Addr) (H' : Hp), Same H H' → H p = none → IT H' p (movedM s mv) → Q (.ref p) H'
theorem ok_moved (T : Txt K mg) : FnAt P w K mg base CX0 1 "moved" ["kinds", "move"] sp_moved := by
  refine fn_body T.d_moved sc_moved (fun _ _ _ _ _ _ us hl => match us, hl with | [_, _], _ => rfl) ?_ (fun f cdv A outer s H vs Q E hr h => ?_)
  · rintro vs H Q E ⟨_, _, _, _, _, rfl, _⟩
    rfl
  · refine ⟨_, PSs.nox (pss_cons (ps_set (i := 2) sc_moved.nd rfl (Or.inl rfl) (pe_callTy call_list_of rfl T.b_list (by decide +kernel) (pa_cons (pv 0) pa_nil)))
    (pss_cons (ps_for PassesOwn.never rfl (RZ.pi_zipA rfl T.b_zip (pa_cons (pe_ix ix_tup (pv 1) pe_int (fun _ _ => rfl)) (pa_cons (pe_ix ix_tup (pv 1) pe_int (fun _ _ => rfl)) pa_nil))) (pg_tup rfl (pgs_cons (pg_name (i := 3) sc_moved.nd rfl (Or.inl rfl)) (pgs_cons (pg_name (i := 4) sc_moved.nd rfl (Or.inl rfl)) pgs_nil)))
    (pss_one (ps_asg (pv 4) (pg_sub (pv 2) (pv 3) set_list))))
    (pss_one (ps_ret (pe_callTy call_tuple_of rfl T.b_tuple (by decide +kernel) (pa_cons (pv 2) pa_nil)))))), ?_⟩
    obtain ⟨c, v, m, s, ⟨e, pr⟩, rfl, hc, ⟨ea, pa, hv, he, hp⟩, ⟨a, b, e0, hin, hab⟩, h2, hm, hm8, q⟩ := h
    dsimp only at e0 h2 he hp hin
    subst e0
    obtain ⟨x, y, rfl⟩ := two h2
    have ha := hin a (by simp)
    have hb := hin b (by simp)
    refine ⟨_, rfl, ?_⟩
    refine ⟨_, _, rfl, .inr (.of hc), fun l hl => ?_⟩
    refine ⟨_, rfl, ?_⟩
    refine ⟨_, _, _, _, rfl, rfl, .of (same_new hl _ _ hv), rfl, ?_⟩
    refine ⟨_, rfl, ?_⟩
    refine ⟨_, _, _, _, rfl, rfl, .of (same_new hl _ _ hv), rfl, ?_⟩
    refine ⟨_, _, _, _, rfl, .inr ⟨.of (same_new hl _ _ he), .of (same_new hl _ _ hp), ?_⟩⟩
    refine RZ.for_zipT (xs := [.int a, .int b]) (ys := [.int x, .int y]) rfl (fun i σ H2 => Same H H2 ∧ H2 l = some (.lst ((cur s a x b y i).map V.int)) ∧ ∃ o1 o2, σ = [some (.ref c), some (.ref v), some (.ref l), o1, o2])
      ⟨same_new hl, upd_same, none, none, rfl⟩ (fun i σ H2 pp => ⟨.of (pp.1 _ _ he), .of (pp.1 _ _ hp)⟩) (fun i z1 z2 TT σ H2 e1 e2 pp hT => ?_) (fun σ H2 pp => ?_)
    · obtain ⟨s1, el, o1, o2, rfl⟩ := pp
      have s2 := s1.trans (same_new (o := .tup [z1, z2]) hT)
      have el2 := same_new (o := .tup [z1, z2]) hT _ _ el
      refine ⟨_, _, rfl, .of upd_same, rfl, ?_⟩
      refine ⟨_, _, rfl, ?_⟩
      refine ⟨_, _, rfl, ?_⟩
      refine ⟨rfl, ?_⟩
      refine ⟨_, rfl, ?_⟩
      refine ⟨_, rfl, ?_⟩
      refine ⟨_, rfl, ?_⟩
      match i, e1, e2 with
      | 0, e1, e2 =>
        cases e1
        cases e2
        refine ⟨_, _, _, a.toNat, rfl, rfl, el2, ixN_in ha.1 (by rw [List.length_map, cur_len]; omega), ?_⟩
        refine ⟨same_to s2 hl, ?_, _, _, rfl⟩
        rw [upd_same, map_set]
        rfl
      | 1, e1, e2 =>
        cases e1
        cases e2
        refine ⟨_, _, _, b.toNat, rfl, rfl, el2, ixN_in hb.1 (by rw [List.length_map, cur_len]; omega), ?_⟩
        refine ⟨same_to s2 hl, ?_, _, _, rfl⟩
        rw [upd_same, map_set]
        rfl
      | i + 2, e1, e2 => cases e1
    · obtain ⟨s1, el, o1, o2, rfl⟩ := pp
      refine ⟨_, rfl, ?_⟩
      refine ⟨_, _, rfl, .inl ⟨.of el, fun p hp => ?_⟩⟩
      exact q p _ (s1.trans (same_new hp)) (same_none s1 hp) upd_same
/-- a move and where it leads -/
def Mv2 (s : List Int) (H : Hp) (a : Addr) (mv : List Int × List Int) : Prop := ∃ x y, H a = some (.tup [.ref x, .ref y]) ∧ MvT H x mv ∧ IT H y (movedM s mv)
theorem Mv2.kt {s : List Int} {H H' : Hp} {a : Addr} {mv : List Int × List Int} (k : KT H H') (h : Mv2 s H a mv) : Mv2 s H' a mv := let ⟨x, y, h1, h2, h3⟩ := h; ⟨x, y, k _ _ h1, MvT.kt k h2, IT.kt k h3⟩
theorem mvs2_kt {s : List Int} {H H' : Hp} {as : List Addr} {ms : List (List Int × List Int)} (k : KT H H') (h : Paired (Mv2 s H) as ms) : Paired (Mv2 s H') as ms := Paired.mono (fun _ _ q => Mv2.kt k q) h
def sp_moves2 : Sp := fun vs H Q _ => ∃ (t b c : Addr) (n m : Int) (ks es : List (List Int)) (s : List Int), vs = [.ref t, .ref b, .ref c] ∧ TabAt H t n ks ∧ TabAt H b m es ∧ IT H c s ∧ Ok n m ks es ∧ SOk n m s ∧
  ∀ (l : Addr) (as : List Addr) (H' : Hp), Same H H' → H l = none → H' l = some (.lst (as.map V.ref)) → Paired (Mv2 s H') as (movesM ks es s) → Q (.ref l) H'
theorem ok_law_moves (T : Txt K mg) (G_law_results : FnAt P w K mg base CX0 1 "_law_results" ["_law_table_here", "_law_pair"] sp_res) : FnAt P w K mg base CX0 2 "_law_moves" ["_law_table_here", "_law_web_here", "_law_start"] sp_moves2 := by
  refine fn_body T.d_law_moves sc_law_moves (fun _ _ _ _ _ _ us hl => match us, hl with | [_, _, _], _ => rfl) ?_ (fun f cdv A outer s H vs Q E hr h => ?_)
  · rintro vs H Q E ⟨_, _, _, _, _, _, _, _, rfl, _⟩
    rfl
  · refine ⟨_, PSs.nox (pss_cons (ps_set (i := 3) sc_law_moves.nd rfl (Or.inl rfl) (pe_lst pa_nil))
    (pss_cons (ps_for PassesOwn.never rfl (pi_tup (pe_ix ix_tup (pv 1) pe_int (fun _ _ => rfl))) (pg_tup rfl (pgs_cons (pg_name (i := 4) sc_law_moves.nd rfl (Or.inr rfl)) (pgs_cons (pg_name (i := 5) sc_law_moves.nd rfl (Or.inr rfl)) pgs_nil)))
    (pss_one (ps_for PassesOwn.never rfl (pi_list (pe_cf G_law_results (hr.mono (by decide)) rfl pass00 (pa_cons (pv 0) (pa_cons (pe_tup (pa_cons (pe_ix ix_tup (pv 2) (pv 4) (fun _ _ => rfl)) (pa_cons (pe_ix ix_tup (pv 2) (pv 5) (fun _ _ => rfl)) pa_nil))) pa_nil)))) (pg_name (i := 6) sc_law_moves.nd rfl (Or.inr rfl))
    (pss_cons (ps_set (i := 7) sc_law_moves.nd rfl (Or.inl rfl) (pe_callTy call_tuple_of rfl T.b_tuple (by decide +kernel) (pa_cons (pe_lc (own := [("_law_k", 8)]) rfl sc_law_moves.nd (pi_range1 rfl T.b_range (pa_cons (pe_ix ix_tup (pv 1) pe_int (fun _ _ => rfl)) pa_nil)) (blkOk_by (N := N_law_moves) (sc := defScope s_law_moves) (by decide +kernel)) (fun _ _ _ _ _ => (pg_name (i := 8) sc_law_moves.nd rfl (Or.inl rfl))) (fun _ _ _ _ _ => pts_nil) (fun _ _ _ _ _ => (pe_ifExp (pt_cmpR op_eq (pv 8) (pv 4) (nomark _)) (pe_ix (show IxR _ (rIxT K) from ix_tup) (pv 6) pe_int (fun _ _ => rfl)) (pe_ifExp (pt_cmpR op_eq (pv 8) (pv 5) (nomark _)) (pe_ix (show IxR _ (rIxT K) from ix_tup) (pv 6) pe_int (fun _ _ => rfl)) (pe_ix (show IxR _ (rIxT K) from ix_tup) (pv 2) (pv 8) (fun _ _ => rfl)))))) pa_nil)))
    (pss_one (ps_expr (pe_bm PySem.F.plainAttrs_list PySem.F.slot_list_append PySem.F.type_list_append mt_append (pv 3) (pa_cons (pe_tup (pa_cons (pe_tup (pa_cons (pe_tup (pa_cons (pv 4) (pa_cons (pv 5) pa_nil))) (pa_cons (pv 6) pa_nil))) (pa_cons (pv 7) pa_nil))) pa_nil))))))))
    (pss_one (ps_ret (pv 3))))), ?_⟩
    obtain ⟨t, b, c, n, m, ks, es, s, rfl, ht, ⟨r, as, h1, h2, h3⟩, hc, o, so, q⟩ := h
    have hl3 := h3.length
    have hsl := so.2
    have hm4 := o.m4
    refine ⟨Nat.zero_le _, fun l0 hl0 => ?_⟩
    refine ⟨_, rfl, ?_⟩
    refine ⟨_, _, _, _, rfl, rfl, .of (same_new hl0 _ _ h1), rfl, ?_⟩
    refine ⟨_, rfl, ⟨_, .of (same_new hl0 _ _ h2)⟩, ?_⟩
    refine for_it (walk_tup (xs := as.map V.ref)) (fun i σ H2 => Same H H2 ∧ ∃ bs o4 o5 o6 o7, H2 l0 = some (.lst (bs.map V.ref)) ∧ Paired (Mv2 s H2) bs (movesM ks (es.take i) s) ∧ σ = [some (.ref t), some (.ref b), some (.ref c), some (.ref l0), o4, o5, o6, o7, none])
      ⟨same_new hl0, [], none, none, none, none, upd_same, .nil, rfl⟩ (fun i σ H2 _ pp => .of (pp.1 _ _ h2)) (fun i x0 σ H2 H3 hi pp yy => ?_) (fun σ H2 pp => ?_)
    · obtain ⟨s1, bs, o4, o5, o6, o7, el, hb, rfl⟩ := pp
      obtain ⟨rfl, hx⟩ := yy
      obtain ⟨a0, e, rfl, ea, ee, ie⟩ := its_get h3 hx
      obtain ⟨a, b', rfl, hin, hab⟩ := o.web.2.2.2.1 e (List.mem_of_getElem? ee)
      have ha := hin a (by simp)
      have hb' := hin b' (by simp)
      have ie' := s1 _ _ ie
      have hc' : H3 c = some (.tup (s.map V.int)) := s1 _ _ hc
      refine ⟨_, _, rfl, .of ie', rfl, ?_⟩
      refine ⟨_, _, rfl, ?_⟩
      refine ⟨_, _, rfl, ?_⟩
      refine ⟨rfl, ?_⟩
      refine ⟨_, rfl, ?_⟩
      refine ⟨_, rfl, ?_⟩
      refine ⟨_, rfl, ?_⟩
      refine ⟨_, _, _, _, rfl, rfl, .of hc', atI_ints (by omega) (by omega), ?_⟩
      refine ⟨_, rfl, ?_⟩
      refine ⟨_, rfl, ?_⟩
      refine ⟨_, _, _, _, rfl, rfl, .of hc', atI_ints (by omega) (by omega), ?_⟩
      refine ⟨by show 2 ≤ sizeLine; decide, fun q1 hq1 => ?_⟩
      have s2 : Same H _ := s1.trans (same_new (o := .tup [.int (gi s a), .int (gi s b')]) hq1)
      refine ⟨_, _, _, _, _, _, rfl, ht.kt (KT.of s2), by have := o.kl; omega, o.rule4, upd_same, fun l2 bs2 H4 s4 hl2N el2 hb2 => ?_⟩
      refine ⟨_, rfl, ⟨_, .of el2⟩, ?_⟩
      have s5 : Same H3 H4 := (same_new (o := .tup [.int (gi s a), .int (gi s b')]) hq1).trans s4
      have el0 : upd H3 q1 (.tup [.int (gi s a), .int (gi s b')]) l0 = some (.lst (bs.map V.ref)) := same_new hq1 _ _ el
      have hne : l2 ≠ l0 := fun z => by
        rw [z, el0] at hl2N
        cases hl2N
      have hbl := hb2.length
      have hrl := resM_len (ks := ks) (gi s a) (gi s b')
      have hkl := o.kl
      refine for_it (walk_list (xs := bs2.map V.ref)) (fun j σ H5 => Same H H5 ∧ H5 l2 = some (.lst (bs2.map V.ref)) ∧ ITs H5 bs2 (resM ks (gi s a) (gi s b')) ∧ ∃ cs o6 o7, H5 l0 = some (.lst (cs.map V.ref)) ∧
          Paired (Mv2 s H5) cs (movesM ks (es.take i) s ++ ((resM ks (gi s a) (gi s b')).take j).map fun p => ([a, b'], p)) ∧ σ = [some (.ref t), some (.ref b), some (.ref c), some (.ref l0), some (.int a), some (.int b'), o6, o7, none])
        ⟨s1.trans s5, el2, hb2, bs, o6, o7, s5 _ _ el, by simpa using mvs2_kt (KT.of s5) hb, rfl⟩ (fun j σ H5 _ pp => .of pp.2.1) (fun j x1 σ H5 H6 hj pp yy => ?_) (fun σ H5 pp => ?_)
      · obtain ⟨s6, e2, hb3, cs, o6, o7, e0, hcs, rfl⟩ := pp
        obtain ⟨rfl, hx1⟩ := yy
        obtain ⟨a1, k, rfl, ea1, ek, ik⟩ := its_get hb3 hx1
        have hk2 := resM_len2 o.rule4 k (List.mem_of_getElem? ek)
        obtain ⟨x, y, rfl⟩ := two hk2
        refine ⟨_, rfl, ?_⟩
        refine ⟨_, _, _, _, rfl, rfl, .of (s6 _ _ h1), rfl, ?_⟩
        refine ⟨_, rfl, by omega, by omega, ?_⟩
        intro D hD
        refine lc_it walk_range (PvLc H6 D (RN fun z => (List.range z).map (putP s a x b' y))) (PvLc.zero RN.st hD rfl) (fun z H2 _ p => trivial) (fun z xx H2 H3 hz p yy => ?_) (fun H7 p => ?_)
        · obtain ⟨acc, eD, hl, s7, hr⟩ := p
          obtain ⟨rfl, hxx⟩ := yy
          obtain rfl : xx = .int (z : Int) := by rw [hxx]; exact congrArg V.int (by omega)
          have hz' : (z : Int) < m := by omega
          have ik' : H3 a1 = some (.tup [.int x, .int y]) := s7 _ _ ik
          have hcc : H3 c = some (.tup (s.map V.int)) := s7 _ _ (s6 _ _ hc)
          refine ⟨rfl, ?_⟩
          have fin : ∀ u : Int, putP s a x b' y z = u → ∃ acc, H3 D = some (.lst acc) ∧ acc.length < sizeLine ∧ PvLc H6 D (RN fun z => (List.range z).map (putP s a x b' y)) (z + 1) (upd H3 D (.lst (acc ++ [.int u]))) := fun u hu => by
            refine PvLc.put RN.st hD eD hl s7 (Same.refl _) ?_ (by omega)
            show acc ++ [.int u] = ((List.range (z + 1)).map (putP s a x b' y)).map V.int
            have hr' : acc = ((List.range z).map (putP s a x b' y)).map V.int := hr
            rw [hr', List.range_succ, List.map_append, List.map_append, ← hu]
            rfl
          refine ⟨_, rfl, ?_⟩
          refine ⟨_, rfl, ?_⟩
          refine ⟨rfl, ?_⟩
          refine ⟨_, rfl, ?_⟩
          refine ifB (fun e => ?_) (fun e => ?_)
          · have e' : (z : Int) = a := by simpa using e
            refine ⟨_, rfl, ?_⟩
            refine ⟨_, _, _, _, rfl, rfl, .of ik', rfl, ?_⟩
            exact fin x (by unfold putP; rw [if_pos e'])
          · have e' : ¬ (z : Int) = a := by simpa using e
            refine ⟨_, rfl, ?_⟩
            refine ⟨_, rfl, ?_⟩
            refine ⟨rfl, ?_⟩
            refine ⟨_, rfl, ?_⟩
            refine ifB (fun e2 => ?_) (fun e2 => ?_)
            · have e2' : (z : Int) = b' := by simpa using e2
              refine ⟨_, rfl, ?_⟩
              refine ⟨_, _, _, _, rfl, rfl, .of ik', rfl, ?_⟩
              exact fin y (by unfold putP; rw [if_neg e', if_pos e2'])
            · have e2' : ¬ (z : Int) = b' := by simpa using e2
              refine ⟨_, rfl, ?_⟩
              refine ⟨_, rfl, ?_⟩
              refine ⟨_, _, _, _, rfl, rfl, .of hcc, atI_ints (by omega) (by omega), ?_⟩
              exact fin _ (by unfold putP; rw [if_neg e', if_neg e2'])
        · obtain ⟨acc, eD, hl, s7, hr⟩ := p
          have em : m.toNat = s.length := by omega
          have hr' : acc = ((List.range m.toNat).map (putP s a x b' y)).map V.int := hr
          rw [em, putP_list ha.1 hab (by omega)] at hr'
          subst hr'
          refine ⟨_, _, rfl, .inl ⟨.of eD, fun p hp => ?_⟩⟩
          have s8 := same_new (o := .tup (((s.set a.toNat x).set b'.toNat y).map V.int)) hp
          have s9 := s6.trans (s7.trans s8)
          refine ⟨_, rfl, ?_⟩
          refine ⟨.inl ⟨rfl, _, .of (s8 _ _ (s7 _ _ e0))⟩, ?_⟩
          refine ⟨_, rfl, ?_⟩
          refine ⟨_, rfl, ?_⟩
          refine ⟨by show 2 ≤ sizeLine; decide, fun p1 hp1 => ?_⟩
          refine ⟨_, rfl, ?_⟩
          refine ⟨by show 2 ≤ sizeLine; decide, fun p2 hp2 => ?_⟩
          refine ⟨_, rfl, ?_⟩
          refine ⟨by show 2 ≤ sizeLine; decide, fun p3 hp3 => ?_⟩
          have t1 := same_new (o := .tup [.int a, .int b']) hp1
          have t2 := same_new (o := .tup [.ref p1, .ref a1]) hp2
          have t3 := same_new (o := .tup [.ref p2, .ref p]) hp3
          have t4 := t1.trans (t2.trans t3)
          have t5 := s7.trans (s8.trans t4)
          have hcl := hcs.length
          have hml := movesM_len (s := s) o i
          have hlen : (cs.map V.ref).length < sizeLine := by
            rw [List.length_append, List.length_map, List.length_take] at hcl
            rw [List.length_map, sizeLine_is]
            omega
          refine ⟨l0, _, _, rfl, rfl, t5 _ _ e0, hlen, ?_⟩
          have k5 : KT H6 (upd _ l0 (.lst (cs.map V.ref ++ [.ref p3]))) := (KT.of t5).trans (KT.lst (t5 _ _ e0))
          have k6 := KT.lst (o := .lst (cs.map V.ref ++ [.ref p3])) (t5 _ _ e0)
          refine ⟨same_to (s6.trans t5) hl0, ?_, ITs.kt k5 hb3, cs ++ [p3], _, _, ?_, ?_, rfl⟩
          · rw [upd_ne hne]
            exact t5 _ _ e2
          · rw [upd_same, List.map_append]
            rfl
          · rw [take_succ_get ek, List.map_append, ← List.append_assoc]
            refine (mvs2_kt k5 hcs).snoc ⟨p2, p, k6 _ _ upd_same, ⟨p1, a1, k6 _ _ (t3 _ _ upd_same), k6 _ _ (t3 _ _ (t2 _ _ upd_same)), k6 _ _ (t4 _ _ (s8 _ _ (s7 _ _ ik)))⟩, k6 _ _ (t4 _ _ upd_same)⟩
      · obtain ⟨s6, e2, hb3, cs, o6, o7, e0, hcs, rfl⟩ := pp
        refine ⟨s6, cs, _, _, _, _, e0, ?_, rfl⟩
        rw [movesM_snoc ee]
        have e5 : (List.take (bs2.map V.ref).length (resM ks (gi s a) (gi s b'))) = resM ks (gi s a) (gi s b') := List.take_of_length_le (by rw [List.length_map]; omega)
        rw [e5] at hcs
        exact hcs
    · obtain ⟨s1, bs, o4, o5, o6, o7, el, hb, rfl⟩ := pp
      rw [List.take_of_length_le (by rw [List.length_map]; omega)] at hb
      refine ⟨_, rfl, ?_⟩
      exact q l0 bs _ s1 hl0 el hb
end
end K4
set_option Elab.async false
set_option linter.all false
set_option maxRecDepth 100000
set_option maxHeartbeats 4000000
/-! the states: at most 256, their hashes stand apart -/
namespace K4
open PySem PySem.Spec PyProof.Rows L2 K4R
def allS : Nat → List (List Int)
  | 0 => [[]]
  | k + 1 => (allS k).flatMap fun r => [0 :: r, 1 :: r, 2 :: r, 3 :: r]
theorem mem_allS : ∀ (k : Nat) (s : List Int), s.length = k → InR 4 s → s ∈ allS k
  | 0, s, h, _ => by
    have e : s = [] := List.length_eq_zero_iff.mp h
    subst e
    simp [allS]
  | k + 1, [], h, _ => by cases h
  | k + 1, x :: r, h, hin => by
    have h1 := mem_allS k r (by simpa using h) fun z hz => hin z (List.mem_cons_of_mem _ hz)
    have hx := hin x (List.mem_cons_self ..)
    unfold allS
    refine List.mem_flatMap.mpr ⟨r, h1, ?_⟩
    have e : x = 0 ∨ x = 1 ∨ x = 2 ∨ x = 3 := by omega
    rcases e with rfl | rfl | rfl | rfl <;> simp
theorem hash4 : ((allS 4).map hI).Nodup := by decide +kernel
theorem hash3 : ((allS 3).map hI).Nodup := by decide +kernel
theorem hash2 : ((allS 2).map hI).Nodup := by decide +kernel
theorem hash1 : ((allS 1).map hI).Nodup := by decide +kernel
theorem hash_all {k : Nat} (h1 : 1 ≤ k) (h4 : k ≤ 4) : ((allS k).map hI).Nodup := by
  match k, h1, h4 with
  | 1, _, _ => exact hash1
  | 2, _, _ => exact hash2
  | 3, _, _ => exact hash3
  | 4, _, _ => exact hash4
theorem inj_of_nodup {α β : Type} {f : α → β} : ∀ {l : List α}, (l.map f).Nodup → ∀ {a b : α}, a ∈ l → b ∈ l → f a = f b → a = b
  | [], _, _, _, h, _, _ => by simp at h
  | x :: l, nd, a, b, ha, hb, e => by
    rw [List.map_cons, List.nodup_cons] at nd
    rcases List.mem_cons.mp ha with e1 | ha
    · rcases List.mem_cons.mp hb with e2 | hb
      · rw [e1, e2]
      · rw [e1] at e
        exact absurd (List.mem_map.mpr ⟨b, hb, e.symm⟩) nd.1
    · rcases List.mem_cons.mp hb with e2 | hb
      · rw [e2] at e
        exact absurd (List.mem_map.mpr ⟨a, ha, e⟩) nd.1
      · exact inj_of_nodup nd.2 ha hb e
theorem nodup_map_on {α β : Type} {f : α → β} : ∀ {l : List α}, l.Nodup → (∀ a ∈ l, ∀ b ∈ l, f a = f b → a = b) → (l.map f).Nodup
  | [], _, _ => List.nodup_nil
  | a :: l, h, hf => by
    rw [List.nodup_cons] at h
    rw [List.map_cons, List.nodup_cons]
    refine ⟨fun m => ?_, nodup_map_on h.2 fun x hx y hy => hf x (List.mem_cons_of_mem _ hx) y (List.mem_cons_of_mem _ hy)⟩
    obtain ⟨b, hb, e⟩ := List.mem_map.mp m
    rw [hf b (List.mem_cons_of_mem _ hb) a (List.mem_cons_self ..) e] at hb
    exact h.1 hb
theorem len_le_of {α : Type} [DecidableEq α] : ∀ {l m : List α}, l.Nodup → (∀ a ∈ l, a ∈ m) → l.length ≤ m.length
  | [], _, _, _ => by simp
  | a :: l, m, nd, h => by
    rw [List.nodup_cons] at nd
    have ha := h a (List.mem_cons_self ..)
    have ih := len_le_of (l := l) (m := m.erase a) nd.2 fun b hb => (List.mem_erase_of_ne (fun z => nd.1 (by rw [← z]; exact hb))).mpr (h b (List.mem_cons_of_mem _ hb))
    rw [List.length_erase_of_mem ha] at ih
    have hp : 0 < m.length := List.length_pos_of_mem ha
    simp only [List.length_cons]
    omega
theorem allS_len : ∀ k, (allS k).length = 4 ^ k
  | 0 => rfl
  | k + 1 => by
    unfold allS
    have h : ∀ l : List (List Int), (l.flatMap fun r => [(0 : Int) :: r, 1 :: r, 2 :: r, 3 :: r]).length = 4 * l.length := fun l => by
      induction l with
      | nil => rfl
      | cons x l ih =>
        rw [List.flatMap_cons, List.length_append, ih]
        simp only [List.length_cons, List.length_nil]
        omega
    rw [h, allS_len k, Nat.pow_succ]
    omega
section
variable {n m : Int} {ks es : List (List Int)} {start : List Int}
theorem SOk.all (o : Ok n m ks es) {s : List Int} (h : SOk n m s) : s ∈ allS m.toNat := by
  have h2 := h.2
  refine mem_allS _ s (by omega) fun x hx => ?_
  have h3 := h.1 x hx
  have h4 := o.n4
  omega
theorem hash_L (o : Ok n m ks es) {L : List (List Int)} (nd : L.Nodup) (h : ∀ k ∈ L, SOk n m k) : (L.map hI).Nodup := by
  have h1 := o.web.1
  have h4 := o.m4
  have hn := hash_all (k := m.toNat) (by omega) (by omega)
  exact nodup_map_on nd fun a ha b hb e => inj_of_nodup hn ((h a ha).all o) ((h b hb).all o) e
theorem len_L (o : Ok n m ks es) {L : List (List Int)} (nd : L.Nodup) (h : ∀ k ∈ L, SOk n m k) : L.length ≤ 256 := by
  have h1 := o.web.1
  have h4 := o.m4
  have h2 := len_le_of nd fun a ha => (h a ha).all o
  rw [allS_len] at h2
  have h3 : 4 ^ m.toNat ≤ 4 ^ 4 := Nat.pow_le_pow_right (by decide) (by omega)
  have h5 : 4 ^ 4 = 256 := by decide
  omega
/-- in the walk: L the states that are known, rows those that wait -/
structure WInv (n m : Int) (ks es : List (List Int)) (start : List Int) (L rows : List (List Int)) : Prop where
  nd : L.Nodup
  okL : ∀ k ∈ L, SOk n m k
  okR : ∀ k ∈ rows, SOk n m k
  st : start ∈ L ∨ start ∈ rows
  cl : ∀ k ∈ L, ∀ z ∈ succ ks es k, z ∈ L ∨ z ∈ rows
  mn : ∀ p : List Int → Prop, p start → (∀ k, p k → ∀ z ∈ succ ks es k, p z) → (∀ k ∈ L, p k) ∧ ∀ k ∈ rows, p k
  ln : rows.length ≤ 1 + 60 * L.length
theorem WInv.init (h : SOk n m start) : WInv n m ks es start [] [start] :=
  ⟨List.nodup_nil, fun k hk => by simp at hk, fun k hk => by rw [List.mem_singleton.mp hk]; exact h, .inr (by simp), fun k hk => by simp at hk, fun p hp _ => ⟨fun k hk => by simp at hk, fun k hk => by rw [List.mem_singleton.mp hk]; exact hp⟩, by simp⟩
variable {L rows rows' : List (List Int)} {x : List Int}
theorem WInv.old (h : WInv n m ks es start L rows) (hr : ∀ z, z ∈ rows ↔ z = x ∨ z ∈ rows') (hl : rows.length = rows'.length + 1) (hx : x ∈ L) : WInv n m ks es start L rows' where
  nd := h.nd
  okL := h.okL
  okR := fun k hk => h.okR k ((hr k).mpr (.inr hk))
  st := by
    rcases h.st with q | q
    · exact .inl q
    · rcases (hr _).mp q with rfl | q
      · exact .inl hx
      · exact .inr q
  cl := fun k hk z hz => by
    rcases h.cl k hk z hz with q | q
    · exact .inl q
    · rcases (hr _).mp q with rfl | q
      · exact .inl hx
      · exact .inr q
  mn := fun p hp hc => ⟨(h.mn p hp hc).1, fun k hk => (h.mn p hp hc).2 k ((hr k).mpr (.inr hk))⟩
  ln := by
    have := h.ln
    omega
theorem WInv.new (o : Ok n m ks es) (h : WInv n m ks es start L rows) (hr : ∀ z, z ∈ rows ↔ z = x ∨ z ∈ rows') (hl : rows.length = rows'.length + 1) (hx : ¬ x ∈ L) : WInv n m ks es start (L ++ [x]) (rows' ++ succ ks es x) := by
  have ox : SOk n m x := h.okR x ((hr x).mpr (.inl rfl))
  have os := succ_ok o ox
  refine ⟨?_, ?_, ?_, ?_, ?_, ?_, ?_⟩
  · rw [List.nodup_append]
    refine ⟨h.nd, by simp, ?_⟩
    intro a ha b hb e
    rw [List.mem_singleton.mp hb] at e
    exact hx (e ▸ ha)
  · intro k hk
    rcases List.mem_append.mp hk with hk | hk
    · exact h.okL k hk
    · rw [List.mem_singleton.mp hk]; exact ox
  · intro k hk
    rcases List.mem_append.mp hk with hk | hk
    · exact h.okR k ((hr k).mpr (.inr hk))
    · exact os k hk
  · rcases h.st with q | q
    · exact .inl (List.mem_append.mpr (.inl q))
    · rcases (hr _).mp q with rfl | q
      · exact .inl (by simp)
      · exact .inr (List.mem_append.mpr (.inl q))
  · intro k hk z hz
    rcases List.mem_append.mp hk with hk | hk
    · rcases h.cl k hk z hz with q | q
      · exact .inl (List.mem_append.mpr (.inl q))
      · rcases (hr _).mp q with rfl | q
        · exact .inl (by simp)
        · exact .inr (List.mem_append.mpr (.inl q))
    · rw [List.mem_singleton.mp hk] at hz
      exact .inr (List.mem_append.mpr (.inr hz))
  · intro p hp hc
    have q := h.mn p hp hc
    have px := q.2 x ((hr x).mpr (.inl rfl))
    refine ⟨fun k hk => ?_, fun k hk => ?_⟩
    · rcases List.mem_append.mp hk with hk | hk
      · exact q.1 k hk
      · rw [List.mem_singleton.mp hk]; exact px
    · rcases List.mem_append.mp hk with hk | hk
      · exact q.2 k ((hr k).mpr (.inr hk))
      · exact hc x px k hk
  · have h1 := h.ln
    have h2 := succ_len (s := x) o
    rw [List.length_append, List.length_append]
    simp only [List.length_cons, List.length_nil]
    omega
/-- the walk's end: all the states that the start leads to -/
structure WDone (n m : Int) (ks es : List (List Int)) (start : List Int) (L : List (List Int)) : Prop where
  nd : L.Nodup
  okL : ∀ k ∈ L, SOk n m k
  st : start ∈ L
  cl : ∀ k ∈ L, ∀ z ∈ succ ks es k, z ∈ L
  mn : ∀ p : List Int → Prop, p start → (∀ k, p k → ∀ z ∈ succ ks es k, p z) → ∀ k ∈ L, p k
theorem WInv.done (h : WInv n m ks es start L []) : WDone n m ks es start L :=
  ⟨h.nd, h.okL, by have q := h.st; simpa using q, fun k hk z hz => by have q := h.cl k hk z hz; simpa using q, fun p hp hc => (h.mn p hp hc).1⟩
end
end K4
set_option Elab.async false
set_option linter.all false
set_option maxRecDepth 100000
set_option maxHeartbeats 200000
/-! come_in, _law_walk -/
namespace K4
open PySem PySem.Spec PyProof.Rows L2 K4R
/-- each value is a list of the next states, apart from the list at x -/
def ValsAt (ks es : List (List Int)) (x : Addr) (H : Hp) (l : List (List Int × V)) : Prop := ∀ kv ∈ l, ∃ la as, kv.2 = .ref la ∧ la ≠ x ∧ H la = some (.lst (as.map V.ref)) ∧ ITs H as (succ ks es kv.1)
section
variable {ks es : List (List Int)} {x y : Addr} {H H' : Hp} {l : List (List Int × V)}
theorem ValsAt.same (s : Same H H') (h : ValsAt ks es x H l) : ValsAt ks es x H' l := fun kv hk => let ⟨la, as, e1, e2, e3, e4⟩ := h kv hk; ⟨la, as, e1, e2, s _ _ e3, ITs.kt (KT.of s) e4⟩
/-- the list at x is changed -/
theorem ValsAt.updx {o : HO} {ys : List V} (hx : H x = some (.lst ys)) (h : ValsAt ks es x H l) : ValsAt ks es x (upd H x o) l := fun kv hk => let ⟨la, as, e1, e2, e3, e4⟩ := h kv hk; ⟨la, as, e1, e2, by rw [upd_ne e2]; exact e3, ITs.kt (KT.lst hx) e4⟩
/-- the dict at y is changed -/
theorem ValsAt.updd {o : HO} {kvs : List (List Key × V)} (hy : H y = some (.dT kvs)) (h : ValsAt ks es x H l) : ValsAt ks es x (upd H y o) l := fun kv hk => by
  obtain ⟨la, as, e1, e2, e3, e4⟩ := h kv hk
  have hn : la ≠ y := fun z => by
    rw [z, hy] at e3
    cases e3
  exact ⟨la, as, e1, e2, by rw [upd_ne hn]; exact e3, ITs.kt (KT.dT hy) e4⟩
/-- another list is left out: it is new -/
theorem ValsAt.other (hy : H y = none) (h : ValsAt ks es x H l) : ValsAt ks es y H l := fun kv hk => by
  obtain ⟨la, as, e1, e2, e3, e4⟩ := h kv hk
  have hn : la ≠ y := fun z => by
    rw [z, hy] at e3
    cases e3
  exact ⟨la, as, e1, hn, e3, e4⟩
theorem ValsAt.snoc {k : List Int} {la : Addr} {as : List Addr} (h : ValsAt ks es x H l) (e2 : la ≠ x) (e3 : H la = some (.lst (as.map V.ref))) (e4 : ITs H as (succ ks es k)) : ValsAt ks es x H (l ++ [(k, .ref la)]) := fun kv hk => by
  rcases List.mem_append.mp hk with hk | hk
  · exact h kv hk
  · rw [List.mem_singleton.mp hk]
    exact ⟨la, as, rfl, e2, e3, e4⟩
end
/-- .. nor the dict itself -/
theorem ValsAt.other' {ks es : List (List Int)} {x y : Addr} {H : Hp} {l : List (List Int × V)} {kvs : List (List Key × V)} (hy : H y = some (.dT kvs)) (h : ValsAt ks es x H l) : ValsAt ks es y H l := fun kv hk => by
  obtain ⟨la, as, e1, e2, e3, e4⟩ := h kv hk
  have hn : la ≠ y := fun z => by
    rw [z, hy] at e3
    cases e3
  exact ⟨la, as, e1, hn, e3, e4⟩
theorem its_snoc {H : Hp} {a : Addr} {k : List Int} : ∀ {as : List Addr} {ks : List (List Int)}, ITs H (as ++ [a]) (ks ++ [k]) → ITs H as ks ∧ IT H a k
  | [], [], .cons h .nil => ⟨.nil, h⟩
  | [], _ :: ks, .cons _ t => by
    have := t.length
    simp at this
  | _ :: as, [], .cons _ t => by
    have := t.length
    simp at this
  | _ :: as, _ :: ks, .cons h t => let ⟨h1, h2⟩ := its_snoc (as := as) (ks := ks) t; ⟨.cons h h1, h2⟩
/-- while the walk goes on -/
def ComeW (tl : L2.St) (t b c d : Addr) (H : Hp) (n m : Int) (ks es : List (List Int)) (s : List Int) : Nat → L2.St → Hp → Prop := fun mm σ H2 => ∃ (l : List (List Int × V)) (lr : Addr) (rs : List Addr) (rows : List (List Int)) (o5 : Option V),
  σ = [some (.ref t), some (.ref b), some (.ref c), some (.ref d), some (.ref lr), o5] ++ tl ∧ Same H H2 ∧ H lr = none ∧
  H2 d = some (.dT (dI l)) ∧ H2 lr = some (.lst (rs.map V.ref)) ∧ ITs H2 rs rows ∧ ValsAt ks es lr H2 l ∧ WInv n m ks es s (l.map (·.1)) rows ∧ mm = (256 - l.length) * 100 + rows.length
theorem ComeW.mk' {tl : L2.St} {t b c d : Addr} {H : Hp} {n m : Int} {ks es : List (List Int)} {s : List Int} {σ : L2.St} {H2 : Hp} {l : List (List Int × V)} {lr : Addr} {rs : List Addr} {rows : List (List Int)} {o5 : Option V}
    (h1 : Same H H2) (h2 : H lr = none) (h3 : H2 d = some (.dT (dI l))) (h4 : H2 lr = some (.lst (rs.map V.ref))) (h5 : ITs H2 rs rows) (h6 : ValsAt ks es lr H2 l) (h7 : WInv n m ks es s (l.map (·.1)) rows)
    (hσ : σ = [some (.ref t), some (.ref b), some (.ref c), some (.ref d), some (.ref lr), o5] ++ tl) : ComeW tl t b c d H n m ks es s ((256 - l.length) * 100 + rows.length) σ H2 := ⟨l, lr, rs, rows, o5, hσ, h1, h2, h3, h4, h5, h6, h7, rfl⟩
theorem putK_fresh {l : List (List Int × V)} {k : List Int} {v : V} (h : ¬ k ∈ l.map (·.1)) : putK l k v = l ++ [(k, v)] := by
  unfold putK
  rw [any_mem, if_neg (by rw [decide_eq_false h]; exact Bool.false_ne_true)]
theorem valV_mem {l : List (List Int × V)} {k : List Int} {v : V} (h : valV l k = some v) : (k, v) ∈ l := by
  unfold valV at h
  obtain ⟨p, hp, e⟩ := Option.map_eq_some_iff.mp h
  have h1 := List.mem_of_find?_eq_some hp
  have h2 := List.find?_some hp
  have h3 : p.1 = k := of_decide_eq_true h2
  rw [← h3, ← e]
  exact h1
theorem valV_of_mem {l : List (List Int × V)} {k : List Int} (h : k ∈ l.map (·.1)) : ∃ v, valV l k = some v ∧ (k, v) ∈ l := by
  have q := valV_isSome l k
  rw [decide_eq_true h] at q
  obtain ⟨v, hv⟩ := Option.isSome_iff_exists.mp q
  exact ⟨v, hv, valV_mem hv⟩
theorem valV_snoc_new {l : List (List Int × V)} {k : List Int} {v : V} (h : ¬ k ∈ l.map (·.1)) : valV (l ++ [(k, v)]) k = some v := by
  rw [← putK_fresh h, valV_put, if_pos rfl]
section
variable {P : Program} {w : World} {K : PySem.W.Frag} {mg : Str → Option Value} {base : Heap}
def sp_walk : Sp := fun vs H Q _ => ∃ (t b c : Addr) (n m : Int) (ks es : List (List Int)) (s : List Int), vs = [.ref t, .ref b, .ref c] ∧ TabAt H t n ks ∧ TabAt H b m es ∧ IT H c s ∧ Ok n m ks es ∧ SOk n m s ∧
  ∀ (d : Addr) (l : List (List Int × V)) (H' : Hp), Same H H' → H d = none → H' d = some (.dT (dI l)) → ValsAt ks es d H' l → WDone n m ks es s (l.map (·.1)) → Q (.ref d) H'
theorem ok_come_in (T : Txt K mg) (G_moves_in : FnAt P w K mg base CX0 2 "moves_in" ["table", "web", "kinds"] sp_moves) (G_moved : FnAt P w K mg base CX0 1 "moved" ["kinds", "move"] sp_moved) : FnAt P w K mg base CX0 3 "come_in" ["table", "web", "kinds"] sp_walk := by
  obtain ⟨t2000, hMOST_WALKED⟩ := T.c_MOST_WALKED
  refine fn_body T.d_come_in sc_come_in (fun _ _ _ _ _ _ us hl => match us, hl with | [_, _, _], _ => rfl) ?_ (fun f cdv A outer s H vs Q E hr h => ?_)
  · rintro vs H Q E ⟨_, _, _, _, _, _, _, _, rfl, _⟩
    rfl
  · refine ⟨_, PSs.nox (pss_cons (ps_par (i := 3) (j := 4) rfl sc_come_in.nd rfl rfl (by decide) rfl rfl (pa_cons pe_dnewT (pa_cons (pe_lst (pa_cons (pv 2) pa_nil)) pa_nil)) rfl)
    (pss_cons (ps_while PassesOwn.never (pt_cmpR (op_neD hr.units) (pv 4) (pe_lst pa_nil) (nomark _)) (pss_cons (ps_set (i := 5) sc_come_in.nd rfl (Or.inr rfl) (pe_bm0 PySem.F.plainAttrs_list PySem.F.slot_list_pop PySem.F.type_list_pop mt_pop (pv 4)))
    (pss_one (ps_if (pt_cmp (pc_dnotin (hu_of hr) (pv 5) (pv 3))) (pss_cons (ps_dput (hu_of hr) (pv 3) (pv 5) (pe_lc (own := [("move", 6)]) rfl sc_come_in.nd (pi_list (pe_cf G_moves_in (hr.mono (by decide)) rfl pass00 (pa_cons (pv 0) (pa_cons (pv 1) (pa_cons (pv 5) pa_nil))))) (blkOk_by (N := N_come_in) (sc := defScope s_come_in) (by decide +kernel)) (fun _ _ _ _ _ => (pg_name (i := 6) sc_come_in.nd rfl (Or.inl rfl))) (fun _ _ _ _ _ => pts_nil) (fun _ _ _ _ _ => (pe_cf G_moved (hr.mono (by decide)) rfl pass00 (pa_cons (pv 5) (pa_cons (pv 6) pa_nil))))) rfl)
    (pss_cons (ps_if (pt_cmpR op_gt (pe_callB call_len_dT rfl T.b_len (by decide +kernel) (pa_cons (pv 3) pa_nil)) (pe_glob rfl hMOST_WALKED (v := .int 2000) ⟨_, rfl⟩) (nomark _)) pss_never pss_nil)
    (pss_one (ps_set (i := 4) sc_come_in.nd rfl (Or.inl rfl) (pe_op op_cat (pv 4) (pe_dget (hu_of hr) (pv 3) (pv 5) (fun _ _ => rfl))))))) pss_nil))))
    (pss_one (ps_ret (pv 3))))), ?_⟩
    obtain ⟨t, b, c, n, m, ks, es, s, rfl, ht, hb, hc, o, so, q⟩ := h
    intro d hd
    refine ⟨_, rfl, ?_⟩
    refine ⟨by show 1 ≤ sizeLine; decide, fun r0 hr0 => ?_⟩
    refine ⟨_, _, rfl, ?_⟩
    have s0 : Same H (upd (upd H d (.dT [])) r0 (.lst [.ref c])) := (same_new hd).trans (same_new hr0)
    refine ⟨ComeW [none] t b c d H n m ks es s, ⟨_, [], r0, [c], [s], none, rfl, s0, same_none (same_new hd) hr0, same_new hr0 _ _ upd_same, upd_same, .cons (s0 _ _ hc) .nil, fun kv hk => by simp at hk, WInv.init so, rfl⟩, ?_⟩
    rintro mm σ H2 ⟨l, lr, rs, rows, o5, rfl, s1, hlr, ed, er, irs, vals, inv, rfl⟩
    refine ⟨_, rfl, ?_⟩
    refine ⟨by show 0 ≤ sizeLine; decide, fun p1 hp1 => ?_⟩
    have s2 := same_new (o := .lst []) hp1
    refine ⟨_, _, dp_lst (s2 _ _ er) (ITs.kt (KT.of s2) irs), dp_nil upd_same, shaped_its _, shaped_nil, ?_⟩
    rw [eqv_nil]
    refine ⟨_, rfl, ?_⟩
    refine ifB (fun e => ?_) (fun e => ?_)
    · have hne : rows ≠ [] := fun z => by
        subst z
        simp at e
      obtain ⟨rows', k, rfl⟩ : ∃ r k, rows = r ++ [k] := by
        rcases List.eq_nil_or_concat rows with z | ⟨r, k, z⟩
        · exact absurd z hne
        · exact ⟨r, k, by simpa using z⟩
      obtain ⟨rs', a, rfl⟩ : ∃ r k, rs = r ++ [k] := by
        rcases List.eq_nil_or_concat rs with z | ⟨r, k, z⟩
        · subst z
          have := irs.length
          simp at this
        · exact ⟨r, k, by simpa using z⟩
      obtain ⟨irs', ia⟩ := its_snoc irs
      have hrw : ∀ z, z ∈ rows' ++ [k] ↔ z = k ∨ z ∈ rows' := fun z => by rw [List.mem_append, List.mem_singleton]; exact Or.comm
      have hrl : (rows' ++ [k]).length = rows'.length + 1 := by simp
      have hk : SOk n m k := inv.okR k (by simp)
      refine ⟨fun σ' H' => ∃ m', m' < (256 - l.length) * 100 + (rows' ++ [k]).length ∧ ComeW [none] t b c d H n m ks es s m' σ' H', fun _ _ h => h, ?_⟩
      have er3 := s2 _ _ er
      refine ⟨_, rfl, ?_⟩
      refine ⟨.inl ⟨rfl, _, .of er3⟩, ?_⟩
      refine ⟨_, _, .ref a, rfl, rfl, er3, by simp, ?_⟩
      have k4 : KT H2 (upd (upd H2 p1 (.lst [])) lr (.lst ((rs' ++ [a]).map V.ref).dropLast)) := (KT.of s2).trans (KT.lst er3)
      have s4 : Same H (upd (upd H2 p1 (.lst [])) lr (.lst ((rs' ++ [a]).map V.ref).dropLast)) := same_to (s1.trans s2) hlr
      have er4 : (upd (upd H2 p1 (.lst [])) lr (.lst ((rs' ++ [a]).map V.ref).dropLast)) lr = some (.lst (rs'.map V.ref)) := by rw [upd_same]; simp
      have ed4 : (upd (upd H2 p1 (.lst [])) lr (.lst ((rs' ++ [a]).map V.ref).dropLast)) d = some (.dT (dI l)) := by
        rw [upd_ne (fun z => by rw [z, er] at ed; cases ed)]
        exact s2 _ _ ed
      have vals4 := (vals.same s2).updx (o := .lst ((rs' ++ [a]).map V.ref).dropLast) er3
      generalize (upd (upd H2 p1 (.lst [])) lr (.lst ((rs' ++ [a]).map V.ref).dropLast)) = H4 at k4 s4 er4 ed4 vals4 ⊢
      have ia4 := IT.kt k4 ia
      have irs4 := ITs.kt k4 irs'
      refine ⟨_, rfl, ?_⟩
      refine ⟨_, rfl, ?_⟩
      refine ⟨_, _, rfl, dget ed4 ia4, ?_⟩
      rw [valV_isSome]
      refine ⟨_, rfl, ?_⟩
      refine ifB (fun e2 => ?_) (fun e2 => ?_)
      · have hkn : ¬ k ∈ l.map (·.1) := by simpa using e2
        have inv2 := WInv.new o inv hrw hrl hkn
        have hlen2 := len_L o inv2.nd inv2.okL
        rw [List.length_append, List.length_map] at hlen2
        simp only [List.length_cons, List.length_nil] at hlen2
        refine ⟨_, rfl, ?_⟩
        refine ⟨_, rfl, ?_⟩
        refine ⟨_, rfl, ?_⟩
        refine ⟨_, _, _, _, _, _, _, _, rfl, ht.kt (KT.of s4), hb.kt (KT.of s4), ia4, o, hk, fun l2 ms H5 s5 hl2 el2 hms => ?_⟩
        refine ⟨_, rfl, ⟨_, .of el2⟩, ?_⟩
        intro D hD
        refine lc_it (walk_list (xs := ms.map V.ref)) (PvLc H5 D (RI fun i => ((movesM ks es k).take i).map (movedM k))) (PvLc.zero RI.st hD (RI.zero rfl)) (fun i H2 _ p => ?_) (fun i x H6 H7 hi p y => ?_) (fun H6 p => ?_)
        · obtain ⟨acc, eD, hl, s6, hr⟩ := p
          exact .of (s6 _ _ el2)
        · obtain ⟨acc, eD, hl, s6, hr⟩ := p
          obtain ⟨rfl, hx⟩ := y
          rw [List.getElem?_map] at hx
          obtain ⟨a1, ea1, rfl⟩ := Option.map_eq_some_iff.mp hx
          obtain ⟨mv, emv, imv⟩ := paired_get hms ea1
          have hmv := mem_movesM o (List.mem_of_getElem? emv)
          refine ⟨rfl, ?_⟩
          refine ⟨_, rfl, ?_⟩
          refine ⟨_, rfl, ?_⟩
          have s7 := s5.trans s6
          refine ⟨_, _, _, _, _, rfl, IT.kt (KT.of s7) ia4, MvT.kt (KT.of s6) imv, hmv.1, hmv.2.2, hk.2, by have := o.m4; omega, fun p H8 s8 hp ip => ?_⟩
          have hi' : i < 10000000 := by
            have e1 := hms.length
            have e2 := movesM_len' (s := k) o
            rw [List.length_map] at hi
            omega
          refine PvLc.put RI.st hD eD hl s6 s8 (RI.snoc hr (KT.of s8) ip ?_) hi'
          rw [take_succ_get emv, List.map_append]
          rfl
        · obtain ⟨acc, eD, hl, s6, cs, rfl, hcs⟩ := p
          have e5 : ((movesM ks es k).take (ms.map V.ref).length).map (movedM k) = succ ks es k := by
            rw [List.take_of_length_le (by rw [List.length_map]; have := hms.length; omega)]
            rfl
          dsimp only at hcs
          rw [e5] at hcs
          have s7 := s5.trans s6
          have ed6 := s7 _ _ ed4
          have er6 := s7 _ _ er4
          have ia6 := IT.kt (KT.of s7) ia4
          have irs6 := ITs.kt (KT.of s7) irs4
          have s8 := s4.trans s7
          refine ⟨_, rfl, ?_⟩
          refine ⟨_, rfl, ?_⟩
          have ll : l.length < 10000000 := by omega
          refine ⟨_, _, rfl, dput ed6 ia6 ll, ?_⟩
          rw [putK_fresh hkn]
          have hDr : D ≠ lr := fun z => by
            rw [z, s5 _ _ er4] at hD
            cases hD
          have hlr9 : lr ≠ d := fun z => by
            rw [z, ed4] at er4
            cases er4
          have hDd : D ≠ d := fun z => by
            rw [z, s5 _ _ ed4] at hD
            cases hD
          have k9 : KT H6 (upd H6 d (.dT (dI (l ++ [(k, .ref D)])))) := KT.dT ed6
          have s9 : Same H (upd H6 d (.dT (dI (l ++ [(k, .ref D)])))) := same_to s8 hd
          have ed9 : (upd H6 d (.dT (dI (l ++ [(k, .ref D)])))) d = some (.dT (dI (l ++ [(k, .ref D)]))) := upd_same
          have er9 : (upd H6 d (.dT (dI (l ++ [(k, .ref D)])))) lr = some (.lst (rs'.map V.ref)) := by rw [upd_ne hlr9]; exact er6
          have eD9 : (upd H6 d (.dT (dI (l ++ [(k, .ref D)])))) D = some (.lst (cs.map V.ref)) := by rw [upd_ne hDd]; exact eD
          have ia9 := IT.kt k9 ia6
          have irs9 := ITs.kt k9 irs6
          have ics9 := ITs.kt k9 hcs
          have vals9 : ValsAt ks es lr (upd H6 d (.dT (dI (l ++ [(k, .ref D)])))) (l ++ [(k, .ref D)]) := ((vals4.same s7).updd ed6).snoc hDr eD9 ics9
          generalize (upd H6 d (.dT (dI (l ++ [(k, .ref D)])))) = H9 at k9 s9 ed9 er9 eD9 ia9 irs9 ics9 vals9 ⊢
          refine ⟨_, rfl, ?_⟩
          refine ⟨_, _, rfl, ed9, ?_⟩
          refine ⟨_, _, rfl, rfl, ?_⟩
          refine ⟨_, rfl, ?_⟩
          refine ifN ?_ ?_
          · have : (dI (l ++ [(k, V.ref D)])).length = l.length + 1 := by unfold dI; simp
            rw [this]
            simp
            omega
          refine ⟨_, rfl, ?_⟩
          refine ⟨_, rfl, ?_⟩
          refine ⟨_, rfl, ?_⟩
          have gD : DGet H9 d (.ref a) (some (.ref D)) := by
            rw [← valV_snoc_new (v := .ref D) hkn]
            exact dget ed9 ia9
          refine ⟨_, _, rfl, gD, ?_⟩
          have hcl := hcs.length
          have hsl := succ_len (s := k) o
          have hrl6 := irs6.length
          have hln := inv.ln
          rw [List.length_map, hrl] at hln
          have hsz : (rs'.map V.ref).length + (cs.map V.ref).length ≤ sizeLine := by rw [List.length_map, List.length_map, sizeLine_is]; omega
          refine ⟨_, _, _, _, rfl, rfl, er9, eD9, hsz, fun p9 hp9 => ?_⟩
          have s10 : Same H9 (upd H9 p9 (.lst (rs'.map V.ref ++ cs.map V.ref))) := same_new hp9
          have hp9' : H p9 = none := same_none s9 hp9
          have e10 : (upd H9 p9 (.lst (rs'.map V.ref ++ cs.map V.ref))) p9 = some (.lst ((rs' ++ cs).map V.ref)) := by rw [upd_same, List.map_append]
          have vals10 := (vals9.other hp9).same s10
          have ed10 := s10 _ _ ed9
          have i10 : ITs (upd H9 p9 (.lst (rs'.map V.ref ++ cs.map V.ref))) (rs' ++ cs) (rows' ++ succ ks es k) := paired_append (ITs.kt (KT.of s10) irs9) (ITs.kt (KT.of s10) ics9)
          have s11 := s9.trans s10
          generalize (upd H9 p9 (.lst (rs'.map V.ref ++ cs.map V.ref))) = H10 at s10 e10 vals10 ed10 i10 s11 ⊢
          have inv3 : WInv n m ks es s ((l ++ [(k, V.ref D)]).map (·.1)) (rows' ++ succ ks es k) := by
            rw [List.map_append]
            exact inv2
          have hlt : (256 - (l ++ [(k, V.ref D)]).length) * 100 + (rows' ++ succ ks es k).length < (256 - l.length) * 100 + (rows' ++ [k]).length := by
            simp only [List.length_append, List.length_cons, List.length_nil]
            omega
          have fin : ComeW [none] t b c d H n m ks es s ((256 - (l ++ [(k, V.ref D)]).length) * 100 + (rows' ++ succ ks es k).length) ([some (.ref t), some (.ref b), some (.ref c), some (.ref d), some (.ref p9), some (.ref a)] ++ [none]) H10 := ComeW.mk' s11 hp9' ed10 e10 i10 vals10 inv3 rfl
          clear inv3 i10 vals10 e10
          generalize (256 - (l ++ [(k, V.ref D)]).length) * 100 + (rows' ++ succ ks es k).length = mx at hlt fin
          refine ⟨mx, hlt, ?_⟩
          exact fin
      · have hkn : k ∈ l.map (·.1) := by simpa using e2
        exact ⟨(256 - l.length) * 100 + rows'.length, by omega, ComeW.mk' (o5 := some (.ref a)) s4 hlr ed4 er4 irs4 vals4 (WInv.old inv hrw hrl hkn) rfl⟩
    · have hne : rows = [] := by simpa using e
      subst hne
      refine ⟨_, rfl, ?_⟩
      exact q d l _ (s1.trans s2) hd (s2 _ _ ed) (((vals.same s2).other' (s2 _ _ ed))) inv.done
theorem cut_tail (a : Addr) (rs : List Addr) : cutV ((a :: rs).map V.ref) (some 1) none = rs.map V.ref := by
  have e1 : HT.sIx ((a :: rs).map V.ref).length 0 (some 1) = 1 := by
    have h := HT.sIx_nat ((a :: rs).map V.ref).length 0 1
    have h2 : min 1 ((a :: rs).map V.ref).length = 1 := by simp
    rw [h2] at h
    exact h
  have e2 : HT.sIx ((a :: rs).map V.ref).length ((a :: rs).map V.ref).length none = rs.length + 1 := by
    rw [HT.sIx_none]
    simp
  unfold cutV
  rw [e1, e2, Nat.add_sub_cancel]
  show (rs.map V.ref).take rs.length = _
  exact List.take_of_length_le (by rw [List.length_map]; omega)
theorem ok_law_walk (T : Txt K mg) (G_law_moves : FnAt P w K mg base CX0 2 "_law_moves" ["_law_table_here", "_law_web_here", "_law_start"] sp_moves2) : FnAt P w K mg base CX0 3 "_law_walk" ["_law_table_here", "_law_web_here", "_law_start"] sp_walk := by
  refine fn_body T.d_law_walk sc_law_walk (fun _ _ _ _ _ _ us hl => match us, hl with | [_, _, _], _ => rfl) ?_ (fun f cdv A outer s H vs Q E hr h => ?_)
  · rintro vs H Q E ⟨_, _, _, _, _, _, _, _, rfl, _⟩
    rfl
  · refine ⟨_, PSs.nox (pss_cons (ps_par (i := 3) (j := 4) rfl sc_law_walk.nd rfl rfl (by decide) rfl rfl (pa_cons pe_dnewT (pa_cons (pe_lst (pa_cons (pv 2) pa_nil)) pa_nil)) rfl)
    (pss_cons (ps_while PassesOwn.never (pt_cmpR (op_neD hr.units) (pv 4) (pe_lst pa_nil) (nomark _)) (pss_cons (ps_set (i := 5) sc_law_walk.nd rfl (Or.inl rfl) (pe_ix ix_list (pv 4) pe_int (fun _ _ => rfl)))
    (pss_cons (ps_set (i := 4) sc_law_walk.nd rfl (Or.inl rfl) (pe_slice sl_list (pv 4) (po_some pe_int) po_none))
    (pss_one (ps_if (pt_cmp (pc_dnotin (hu_of hr) (pv 5) (pv 3))) (pss_cons (ps_dput (hu_of hr) (pv 3) (pv 5) (pe_lc (own := [("_law_move", 6), ("_law_there", 7)]) rfl sc_law_walk.nd (pi_list (pe_cf G_law_moves (hr.mono (by decide)) rfl pass00 (pa_cons (pv 0) (pa_cons (pv 1) (pa_cons (pv 5) pa_nil))))) (blkOk_by (N := N_law_walk) (sc := defScope s_law_walk) (by decide +kernel)) (fun _ _ _ _ _ => (show PG _ _ (gTup K 2 _) from (pg_tup rfl (pgs_cons (pg_name (i := 6) sc_law_walk.nd rfl (Or.inl rfl)) (pgs_cons (pg_name (i := 7) sc_law_walk.nd rfl (Or.inl rfl)) pgs_nil))))) (fun _ _ _ _ _ => pts_nil) (fun _ _ _ _ _ => (pv 7))) rfl)
    (pss_one (ps_set (i := 4) sc_law_walk.nd rfl (Or.inl rfl) (pe_op op_cat (pv 4) (pe_dget (hu_of hr) (pv 3) (pv 5) (fun _ _ => rfl)))))) pss_nil)))))
    (pss_one (ps_ret (pv 3))))), ?_⟩
    obtain ⟨t, b, c, n, m, ks, es, s, rfl, ht, hb, hc, o, so, q⟩ := h
    intro d hd
    refine ⟨_, rfl, ?_⟩
    refine ⟨by show 1 ≤ sizeLine; decide, fun r0 hr0 => ?_⟩
    refine ⟨_, _, rfl, ?_⟩
    have s0 : Same H (upd (upd H d (.dT [])) r0 (.lst [.ref c])) := (same_new hd).trans (same_new hr0)
    refine ⟨ComeW [none, none] t b c d H n m ks es s, ⟨_, [], r0, [c], [s], none, rfl, s0, same_none (same_new hd) hr0, same_new hr0 _ _ upd_same, upd_same, .cons (s0 _ _ hc) .nil, fun kv hk => by simp at hk, WInv.init so, rfl⟩, ?_⟩
    rintro mm σ H2 ⟨l, lr, rs, rows, o5, rfl, s1, hlr, ed, er, irs, vals, inv, rfl⟩
    refine ⟨_, rfl, ?_⟩
    refine ⟨by show 0 ≤ sizeLine; decide, fun p1 hp1 => ?_⟩
    have s2 := same_new (o := .lst []) hp1
    refine ⟨_, _, dp_lst (s2 _ _ er) (ITs.kt (KT.of s2) irs), dp_nil upd_same, shaped_its _, shaped_nil, ?_⟩
    rw [eqv_nil]
    refine ⟨_, rfl, ?_⟩
    refine ifB (fun e => ?_) (fun e => ?_)
    · have hne : rows ≠ [] := fun z => by
        subst z
        simp at e
      obtain ⟨k, rows', rfl⟩ : ∃ k r, rows = k :: r := by
        cases rows with
        | nil => exact absurd rfl hne
        | cons k r => exact ⟨k, r, rfl⟩
      obtain ⟨a, rs', rfl⟩ : ∃ k r, rs = k :: r := by
        cases rs with
        | nil => cases irs
        | cons k r => exact ⟨k, r, rfl⟩
      obtain ⟨ia, irs'⟩ : IT H2 a k ∧ ITs H2 rs' rows' := by
        cases irs with
        | cons h t => exact ⟨h, t⟩
      have hrw : ∀ z, z ∈ k :: rows' ↔ z = k ∨ z ∈ rows' := fun z => List.mem_cons
      have hrl : (k :: rows').length = rows'.length + 1 := rfl
      have hk : SOk n m k := inv.okR k (by simp)
      refine ⟨fun σ' H' => ∃ m', m' < (256 - l.length) * 100 + (k :: rows').length ∧ ComeW [none, none] t b c d H n m ks es s m' σ' H', fun _ _ h => h, ?_⟩
      have er3 := s2 _ _ er
      refine ⟨_, rfl, ?_⟩
      refine ⟨_, _, _, _, rfl, rfl, .of er3, atI_nat (j := 0) (v := .ref a) rfl, ?_⟩
      refine ⟨_, rfl, ?_⟩
      refine ⟨_, rfl, ?_⟩
      refine ⟨_, _, rfl, .of er3, fun lr2 hlr2 => ?_⟩
      have s24 : Same H2 (upd (upd H2 p1 (.lst [])) lr2 (.lst (cutV ((a :: rs').map V.ref) (some 1) none))) := s2.trans (same_new hlr2)
      have hlrN : H lr2 = none := same_none (s1.trans s2) hlr2
      have hlr3 : H2 lr2 = none := same_none s2 hlr2
      have er4 : (upd (upd H2 p1 (.lst [])) lr2 (.lst (cutV ((a :: rs').map V.ref) (some 1) none))) lr2 = some (.lst (rs'.map V.ref)) := by
        rw [upd_same, cut_tail]
      have ed4 := s24 _ _ ed
      have vals4 := (vals.other hlr3).same s24
      have s4 := s1.trans s24
      have k4 := KT.of s24
      clear er er3
      generalize (upd (upd H2 p1 (.lst [])) lr2 (.lst (cutV ((a :: rs').map V.ref) (some 1) none))) = H4 at s24 k4 s4 er4 ed4 vals4 ⊢
      clear hlr2 hlr3 vals
      have ia4 := IT.kt k4 ia
      have irs4 := ITs.kt k4 irs'
      refine ⟨_, rfl, ?_⟩
      refine ⟨_, rfl, ?_⟩
      refine ⟨_, _, rfl, dget ed4 ia4, ?_⟩
      rw [valV_isSome]
      refine ⟨_, rfl, ?_⟩
      refine ifB (fun e2 => ?_) (fun e2 => ?_)
      · have hkn : ¬ k ∈ l.map (·.1) := by simpa using e2
        have inv2 := WInv.new o inv hrw hrl hkn
        have hlen2 := len_L o inv2.nd inv2.okL
        rw [List.length_append, List.length_map] at hlen2
        simp only [List.length_cons, List.length_nil] at hlen2
        refine ⟨_, rfl, ?_⟩
        refine ⟨_, rfl, ?_⟩
        refine ⟨_, rfl, ?_⟩
        refine ⟨_, _, _, _, _, _, _, _, rfl, ht.kt (KT.of s4), hb.kt (KT.of s4), ia4, o, hk, fun l2 ms H5 s5 hl2 el2 hms => ?_⟩
        refine ⟨_, rfl, ⟨_, .of el2⟩, ?_⟩
        intro D hD
        refine lc_it (walk_list (xs := ms.map V.ref)) (PvLc H5 D (RI fun i => ((movesM ks es k).take i).map (movedM k))) (PvLc.zero RI.st hD (RI.zero rfl)) (fun i H2 _ p => ?_) (fun i x H6 H7 hi p y => ?_) (fun H6 p => ?_)
        · obtain ⟨acc, eD, hl, s6, hr⟩ := p
          exact .of (s6 _ _ el2)
        · obtain ⟨acc, eD, hl, s6, hr⟩ := p
          obtain ⟨rfl, hx⟩ := y
          rw [List.getElem?_map] at hx
          obtain ⟨a1, ea1, rfl⟩ := Option.map_eq_some_iff.mp hx
          obtain ⟨mv, emv, ⟨x1, y1, h1, h2, h3⟩⟩ := paired_get hms ea1
          refine ⟨_, _, rfl, .of (s6 _ _ h1), rfl, ?_⟩
          refine ⟨_, _, rfl, ?_⟩
          refine ⟨_, _, rfl, ?_⟩
          refine ⟨rfl, ?_⟩
          refine ⟨rfl, ?_⟩
          refine ⟨_, rfl, ?_⟩
          have hi' : i < 10000000 := by
            have e1 := hms.length
            have e2 := movesM_len' (s := k) o
            rw [List.length_map] at hi
            omega
          refine PvLc.put RI.st hD eD hl s6 (Same.refl _) (RI.snoc hr (KT.refl _) (IT.kt (KT.of s6) h3) ?_) hi'
          rw [take_succ_get emv, List.map_append]
          rfl
        · obtain ⟨acc, eD, hl, s6, cs, rfl, hcs⟩ := p
          have e5 : ((movesM ks es k).take (ms.map V.ref).length).map (movedM k) = succ ks es k := by
            rw [List.take_of_length_le (by rw [List.length_map]; have := hms.length; omega)]
            rfl
          dsimp only at hcs
          rw [e5] at hcs
          have s7 := s5.trans s6
          have ed6 := s7 _ _ ed4
          have er6 := s7 _ _ er4
          have ia6 := IT.kt (KT.of s7) ia4
          have irs6 := ITs.kt (KT.of s7) irs4
          have s8 := s4.trans s7
          refine ⟨_, rfl, ?_⟩
          refine ⟨_, rfl, ?_⟩
          have ll : l.length < 10000000 := by omega
          refine ⟨_, _, rfl, dput ed6 ia6 ll, ?_⟩
          rw [putK_fresh hkn]
          have hDr : D ≠ lr2 := fun z => by
            rw [z, s5 _ _ er4] at hD
            cases hD
          have hlr9 : lr2 ≠ d := fun z => by
            rw [z, ed4] at er4
            cases er4
          have hDd : D ≠ d := fun z => by
            rw [z, s5 _ _ ed4] at hD
            cases hD
          have k9 : KT H6 (upd H6 d (.dT (dI (l ++ [(k, .ref D)])))) := KT.dT ed6
          have s9 : Same H (upd H6 d (.dT (dI (l ++ [(k, .ref D)])))) := same_to s8 hd
          have ed9 : (upd H6 d (.dT (dI (l ++ [(k, .ref D)])))) d = some (.dT (dI (l ++ [(k, .ref D)]))) := upd_same
          have er9 : (upd H6 d (.dT (dI (l ++ [(k, .ref D)])))) lr2 = some (.lst (rs'.map V.ref)) := by rw [upd_ne hlr9]; exact er6
          have eD9 : (upd H6 d (.dT (dI (l ++ [(k, .ref D)])))) D = some (.lst (cs.map V.ref)) := by rw [upd_ne hDd]; exact eD
          have ia9 := IT.kt k9 ia6
          have irs9 := ITs.kt k9 irs6
          have ics9 := ITs.kt k9 hcs
          have vals9 : ValsAt ks es lr2 (upd H6 d (.dT (dI (l ++ [(k, .ref D)])))) (l ++ [(k, .ref D)]) := ((vals4.same s7).updd ed6).snoc hDr eD9 ics9
          generalize (upd H6 d (.dT (dI (l ++ [(k, .ref D)])))) = H9 at k9 s9 ed9 er9 eD9 ia9 irs9 ics9 vals9 ⊢
          refine ⟨_, rfl, ?_⟩
          refine ⟨_, rfl, ?_⟩
          refine ⟨_, rfl, ?_⟩
          have gD : DGet H9 d (.ref a) (some (.ref D)) := by
            rw [← valV_snoc_new (v := .ref D) hkn]
            exact dget ed9 ia9
          refine ⟨_, _, rfl, gD, ?_⟩
          have hcl := hcs.length
          have hsl := succ_len (s := k) o
          have hrl6 := irs6.length
          have hln := inv.ln
          rw [List.length_map, hrl] at hln
          have hsz : (rs'.map V.ref).length + (cs.map V.ref).length ≤ sizeLine := by rw [List.length_map, List.length_map, sizeLine_is]; omega
          refine ⟨_, _, _, _, rfl, rfl, er9, eD9, hsz, fun p9 hp9 => ?_⟩
          have s10 : Same H9 (upd H9 p9 (.lst (rs'.map V.ref ++ cs.map V.ref))) := same_new hp9
          have hp9' : H p9 = none := same_none s9 hp9
          have e10 : (upd H9 p9 (.lst (rs'.map V.ref ++ cs.map V.ref))) p9 = some (.lst ((rs' ++ cs).map V.ref)) := by rw [upd_same, List.map_append]
          have vals10 := (vals9.other hp9).same s10
          have ed10 := s10 _ _ ed9
          have i10 : ITs (upd H9 p9 (.lst (rs'.map V.ref ++ cs.map V.ref))) (rs' ++ cs) (rows' ++ succ ks es k) := paired_append (ITs.kt (KT.of s10) irs9) (ITs.kt (KT.of s10) ics9)
          have s11 := s9.trans s10
          generalize (upd H9 p9 (.lst (rs'.map V.ref ++ cs.map V.ref))) = H10 at s10 e10 vals10 ed10 i10 s11 ⊢
          have inv3 : WInv n m ks es s ((l ++ [(k, V.ref D)]).map (·.1)) (rows' ++ succ ks es k) := by
            rw [List.map_append]
            exact inv2
          have hlt : (256 - (l ++ [(k, V.ref D)]).length) * 100 + (rows' ++ succ ks es k).length < (256 - l.length) * 100 + (k :: rows').length := by
            simp only [List.length_append, List.length_cons, List.length_nil]
            omega
          have fin : ComeW [none, none] t b c d H n m ks es s ((256 - (l ++ [(k, V.ref D)]).length) * 100 + (rows' ++ succ ks es k).length) ([some (.ref t), some (.ref b), some (.ref c), some (.ref d), some (.ref p9), some (.ref a)] ++ [none, none]) H10 := ComeW.mk' s11 hp9' ed10 e10 i10 vals10 inv3 rfl
          clear inv3 i10 vals10 e10
          generalize (256 - (l ++ [(k, V.ref D)]).length) * 100 + (rows' ++ succ ks es k).length = mx at hlt fin
          refine ⟨mx, hlt, ?_⟩
          exact fin
      · have hkn : k ∈ l.map (·.1) := by simpa using e2
        exact ⟨(256 - l.length) * 100 + rows'.length, by omega, ComeW.mk' (o5 := some (.ref a)) s4 hlrN ed4 er4 irs4 vals4 (WInv.old inv hrw hrl hkn) rfl⟩
    · have hne : rows = [] := by simpa using e
      subst hne
      refine ⟨_, rfl, ?_⟩
      exact q d l _ (s1.trans s2) hd (s2 _ _ ed) (((vals.same s2).other' (s2 _ _ ed))) inv.done
end
end K4
set_option Elab.async false
set_option linter.all false
set_option maxRecDepth 100000
set_option maxHeartbeats 400000
/-! orders of the states, ends -/
namespace K4
open PySem PySem.Spec PyProof.Rows L2 K4R
/-- every run from here ends -/
inductive Term (ks es : List (List Int)) : List Int → Prop
  | mk (k : List Int) : (∀ z ∈ succ ks es k, Term ks es z) → Term ks es k
theorem Term.next {ks es : List (List Int)} {k : List Int} (h : Term ks es k) : ∀ z ∈ succ ks es k, Term ks es z := by
  cases h with
  | mk _ h => exact h
section
variable {n m : Int} {ks es : List (List Int)} {start : List Int} {L F L2 S : List (List Int)}
theorem stuck_not {C : List (List Int)} (w : WDone n m ks es start L) (hne : C ≠ []) (hC : ∀ k ∈ C, k ∈ L) (hs : ∀ k ∈ C, ∃ z ∈ succ ks es k, z ∈ C) : ¬ Term ks es start := fun ht => by
  have all := w.mn (Term ks es) ht fun k hk => hk.next
  have no : ∀ k, Term ks es k → ¬ k ∈ C := fun k hk => by
    induction hk with
    | mk k _ ih =>
      intro hc
      obtain ⟨z, hz, hzc⟩ := hs k hc
      exact ih z hz hzc
  cases C with
  | nil => exact hne rfl
  | cons k C => exact no k (all k (hC k (List.mem_cons_self ..))) (List.mem_cons_self ..)
/-- an order in which each state's next ones stand before it -/
structure Topo (ks es : List (List Int)) (L F : List (List Int)) : Prop where
  bef : ∀ i k, F[i]? = some k → ∀ z ∈ succ ks es k, z ∈ F.take i
  all : ∀ k ∈ L, k ∈ F
  sub : ∀ k ∈ F, k ∈ L
  len : F.length ≤ 256
theorem topo_term (w : WDone n m ks es start L) (t : Topo ks es L F) : Term ks es start := by
  have h : ∀ i k, F[i]? = some k → Term ks es k := fun i => by
    induction i using Nat.strongRecOn with
    | _ i ih =>
      intro k hk
      refine .mk k fun z hz => ?_
      obtain ⟨j, hj, e⟩ := List.mem_iff_getElem.mp (t.bef i k hk z hz)
      rw [List.length_take] at hj
      refine ih j (by omega) z ?_
      rw [List.getElem_take] at e
      rw [List.getElem?_eq_getElem (by omega), e]
  obtain ⟨i, hi, e⟩ := List.mem_iff_getElem.mp (t.all start w.st)
  exact h i start (by rw [List.getElem?_eq_getElem hi, e])
/-- none of its next states is left -/
def calm (ks es L2 : List (List Int)) (k : List Int) : Bool := decide ((succ ks es k).filter (fun z => decide (z ∈ L2)) = [])
theorem calm_iff {k : List Int} : calm ks es L2 k = true ↔ ∀ z ∈ succ ks es k, ¬ z ∈ L2 := by
  unfold calm
  rw [decide_eq_true_iff, List.filter_eq_nil_iff]
  constructor
  · intro h z hz hm
    exact h z hz (decide_eq_true hm)
  · intro h z hz hm
    exact h z hz (of_decide_eq_true hm)
/-- while the order grows -/
structure OInv (ks es : List (List Int)) (L F L2 : List (List Int)) : Prop where
  bef : ∀ i k, F[i]? = some k → ∀ z ∈ succ ks es k, z ∈ F.take i
  cov : ∀ k ∈ L, k ∈ F ∨ k ∈ L2
  subF : ∀ k ∈ F, k ∈ L
  sub2 : ∀ k ∈ L2, k ∈ L
  nd2 : L2.Nodup
  len : F.length + L2.length ≤ L.length
theorem OInv.init (w : WDone n m ks es start L) : OInv ks es L [] L := ⟨fun i k h => by simp at h, fun k h => .inr h, fun k h => by simp at h, fun k h => h, w.nd, by simp⟩
theorem filter_split (p : List Int → Bool) : ∀ l : List (List Int), (l.filter p).length + (l.filter fun k => !p k).length = l.length
  | [] => rfl
  | k :: l => by
    have h := filter_split p l
    cases e : p k with
    | true => simp only [List.filter_cons, e, if_true, List.length_cons, Bool.not_true, Bool.false_eq_true, if_false]; omega
    | false => simp only [List.filter_cons, e, if_true, List.length_cons, Bool.not_false, Bool.false_eq_true, if_false]; omega
theorem rest_eq (p : List Int → Bool) (l : List (List Int)) : (l.filter fun k => !decide (k ∈ l.filter p)) = l.filter fun k => !p k := by
  refine List.filter_congr fun k hk => ?_
  congr 1
  rw [Bool.eq_iff_iff, decide_eq_true_iff, List.mem_filter]
  exact ⟨fun h => h.2, fun h => ⟨hk, h⟩⟩
theorem OInv.step (w : WDone n m ks es start L) (h : OInv ks es L F L2) (hS : ∀ k, k ∈ S ↔ k ∈ L2.filter (calm ks es L2)) (hlen : S.length = (L2.filter (calm ks es L2)).length) :
    OInv ks es L (F ++ S) (L2.filter fun k => !decide (k ∈ L2.filter (calm ks es L2))) where
  bef := fun i k hk z hz => by
    rcases Nat.lt_or_ge i F.length with hi | hi
    · rw [List.getElem?_append_left hi] at hk
      have q := h.bef i k hk z hz
      rw [List.take_append_of_le_length (by omega)]
      exact q
    · rw [List.getElem?_append_right hi] at hk
      have hkS := List.mem_of_getElem? hk
      have hk2 := List.mem_filter.mp ((hS k).mp hkS)
      have hz2 := calm_iff.mp hk2.2 z hz
      have hzL := w.cl k (h.sub2 k hk2.1) z hz
      have hzF : z ∈ F := (h.cov z hzL).resolve_right hz2
      rw [List.take_append]
      refine List.mem_append.mpr (.inl ?_)
      rw [List.take_of_length_le hi]
      exact hzF
  cov := fun k hk => by
    rcases h.cov k hk with q | q
    · exact .inl (List.mem_append.mpr (.inl q))
    · by_cases c : k ∈ L2.filter (calm ks es L2)
      · exact .inl (List.mem_append.mpr (.inr ((hS k).mpr c)))
      · refine .inr (List.mem_filter.mpr ⟨q, ?_⟩)
        rw [decide_eq_false c]
        rfl
  subF := fun k hk => by
    rcases List.mem_append.mp hk with q | q
    · exact h.subF k q
    · exact h.sub2 k (List.mem_filter.mp ((hS k).mp q)).1
  sub2 := fun k hk => h.sub2 k (List.mem_filter.mp hk).1
  nd2 := h.nd2.filter _
  len := by
    have h1 := h.len
    have h2 := filter_split (calm ks es L2) L2
    rw [rest_eq, List.length_append, hlen]
    omega
theorem OInv.less (hne : L2.filter (calm ks es L2) ≠ []) : (L2.filter fun k => !decide (k ∈ L2.filter (calm ks es L2))).length < L2.length := by
  have h2 := filter_split (calm ks es L2) L2
  have h3 : 0 < (L2.filter (calm ks es L2)).length := List.length_pos_iff.mpr hne
  rw [rest_eq]
  omega
theorem OInv.done (o : Ok n m ks es) (w : WDone n m ks es start L) (h : OInv ks es L F []) : Topo ks es L F :=
  ⟨h.bef, fun k hk => (h.cov k hk).resolve_right (by simp), h.subF, by
    have h1 := h.len
    have h2 := len_L o w.nd w.okL
    simp only [List.length_nil] at h1
    omega⟩
theorem OInv.stuck (w : WDone n m ks es start L) (h : OInv ks es L F L2) (hne : L2 ≠ []) (he : L2.filter (calm ks es L2) = []) : ¬ Term ks es start := by
  refine stuck_not w hne h.sub2 fun k hk => ?_
  have h1 := List.filter_eq_nil_iff.mp he k hk
  have h2 : ¬ ∀ z ∈ succ ks es k, ¬ z ∈ L2 := fun q => h1 (calm_iff.mpr q)
  exact Classical.byContradiction fun q => h2 fun z hz hm => q ⟨z, hz, hm⟩
end
end K4
set_option Elab.async false
set_option linter.all false
set_option maxRecDepth 100000
set_option maxHeartbeats 400000
/-! order_in -/
namespace K4
open PySem PySem.Spec PyProof.Rows L2 K4R
theorem filter_pos {α : Type} {l : List α} {i : Nat} {x : α} {p : α → Bool} (h : l[i]? = some x) (e : p x = true) : (l.take (i + 1)).filter p = (l.take i).filter p ++ [x] := by
  rw [take_succ_get h, List.filter_append]
  congr 1
  rw [List.filter_cons, if_pos e]
  rfl
theorem filter_neg {α : Type} {l : List α} {i : Nat} {x : α} {p : α → Bool} (h : l[i]? = some x) (e : p x = false) : (l.take (i + 1)).filter p = (l.take i).filter p := by
  rw [take_succ_get h, List.filter_append, List.filter_cons, if_neg (by rw [e]; exact Bool.false_ne_true)]
  simp
theorem same_unlock {H H' : Hp} {d : Addr} {o : Obj} {u : HO} (h : H d = some u) (s : Same (upd H d (.frz o u)) H') : Same H (upd H' d u) := fun a v e => by
  by_cases ha : a = d
  · subst ha
    rw [h] at e
    rw [upd_same, e]
  · rw [upd_ne ha]
    exact s a v (by rw [upd_ne ha]; exact e)
theorem kt_unlock {H' : Hp} {d : Addr} {o : Obj} {u : HO} (h : H' d = some (.frz o u)) : KT H' (upd H' d u) := KT.upd fun xs e => by rw [h] at e; cases e
theorem dI_get {l : List (List Int × V)} {i : Nat} {k : List Key} {v : V} (h : (dI l)[i]? = some (k, v)) : ∃ k', (l.map (·.1))[i]? = some k' ∧ k = kI k' := by
  unfold dI at h
  rw [List.getElem?_map] at h
  obtain ⟨p, hp, e⟩ := Option.map_eq_some_iff.mp h
  cases e
  exact ⟨p.1, by rw [List.getElem?_map, hp]; rfl, rfl⟩
theorem valV_nd : ∀ {l : List (List Int × V)} {k : List Int} {v : V}, (l.map (·.1)).Nodup → (k, v) ∈ l → valV l k = some v
  | [], _, _, _, h => by simp at h
  | p :: l, k, v, nd, h => by
    rw [List.map_cons, List.nodup_cons] at nd
    rcases List.mem_cons.mp h with e | h
    · rw [← e]
      exact valV_pos (p := (k, v)) rfl
    · have hne : ¬ p.1 = k := fun z => nd.1 (by rw [z]; exact List.mem_map.mpr ⟨(k, v), h, rfl⟩)
      rw [valV_neg hne]
      exact valV_nd nd.2 h
theorem dI_len (l : List (List Int × V)) : (dI l).length = l.length := by unfold dI; rw [List.length_map]
section
variable {P : Program} {w : World} {K : PySem.W.Frag} {mg : Str → Option Value} {base : Heap}
def sp_order : Sp := fun vs H Q _ => ∃ (d x : Addr) (n m : Int) (ks es : List (List Int)) (s : List Int) (l : List (List Int × V)), vs = [.ref d] ∧ Ok n m ks es ∧ WDone n m ks es s (l.map (·.1)) ∧ H d = some (.dT (dI l)) ∧ ValsAt ks es x H l ∧
  (∀ H', Same H H' → ¬ Term ks es s → Q .non H') ∧ ∀ (p : Addr) (bs : List Addr) (F : List (List Int)) (H' : Hp), Same H H' → H p = none → H' p = some (.lst (bs.map V.ref)) → ITs H' bs F → Topo ks es (l.map (·.1)) F → Q (.ref p) H'
/-- while the order grows -/
def OrdW (d : Addr) (H : Hp) (ks es L : List (List Int)) : Nat → L2.St → Hp → Prop := fun mm σ H2 => ∃ (l2 : List (List Int × V)) (d2 lf : Addr) (fs : List Addr) (F : List (List Int)) (o3 : Option V),
  σ = [some (.ref d), some (.ref lf), some (.ref d2), o3, none, none] ∧ Same H H2 ∧ H lf = none ∧ H d2 = none ∧ H2 d2 = some (.dT (dI l2)) ∧ H2 lf = some (.lst (fs.map V.ref)) ∧ ITs H2 fs F ∧ ValsAt ks es d2 H2 l2 ∧ OInv ks es L F (l2.map (·.1)) ∧ mm = l2.length
/-- [here for here in left.keys() if [there for there in left[here] if there in left] == []] -/
def endsT (K : PySem.W.Frag) : TE := tLockE (tLc (iKeysMT (tVar 2)) (gName 4) (tTest (tOp (rEqD K) (tLc (iList K (tDGet (tVar 2) (tVar 4))) (gName 5) (tB (tDIn (tVar 5) (tVar 2))) (tVar 5) [5]) (tLst tNil))) (tVar 4) [4])
theorem ends_ok {ks es : List (List Int)} {l2 : List (List Int × V)} {d2 : Addr} {v0 v1 o3 : Option V} {H : Hp} {Q : VK} (ed : H d2 = some (.dT (dI l2))) (vals : ValsAt ks es d2 H l2) (hl : l2.length ≤ 1000) (hsl : ∀ k, (succ ks es k).length ≤ 60)
    (q : ∀ D bs H', Same H H' → H D = none → H' D = some (.lst (bs.map V.ref)) → ITs H' bs ((l2.map (·.1)).filter (calm ks es (l2.map (·.1)))) → Q (.ref D) H') : endsT K [v0, v1, some (.ref d2), o3, none, none] H Q := by
  refine ⟨d2, _, ed, trivial, fun od => ?_⟩
  have k1 : KT H (upd H d2 (.frz od (.dT (dI l2)))) := KT.dT ed
  have ed1 : (upd H d2 (.frz od (.dT (dI l2)))) d2 = some (.frz od (.dT (dI l2))) := upd_same
  have vals1 := vals.updd (o := .frz od (.dT (dI l2))) ed
  have un1 : ∀ H', Same (upd H d2 (.frz od (.dT (dI l2)))) H' → Same H (upd H' d2 (.dT (dI l2))) := fun H' s => same_unlock ed s
  have none1 : ∀ p, (upd H d2 (.frz od (.dT (dI l2)))) p = none → H p = none := fun p hp => by
    by_cases e : p = d2
    · rw [e, ed1] at hp
      cases hp
    · rwa [upd_ne e] at hp
  generalize (upd H d2 (.frz od (.dT (dI l2)))) = H1 at k1 ed1 vals1 un1 none1 ⊢
  refine ⟨_, rfl, ?_⟩
  refine ⟨_, _, _, rfl, ed1, ?_⟩
  intro D hD
  refine lc_it walk_keysT (PvLc H1 D (RI fun i => ((l2.map (·.1)).take i).filter (calm ks es (l2.map (·.1))))) (PvLc.zero RI.st hD (RI.zero rfl)) (fun i H2 _ p => ?_) (fun i x H2 H3 hi p y => ?_) (fun H2 p => ?_)
  · obtain ⟨acc, eD, hl, s1, hr⟩ := p
    exact s1 _ _ ed1
  · obtain ⟨acc, eD, hal, s1, hr⟩ := p
    obtain ⟨rfl, kk, v, qa, hget, rfl, hq⟩ := y
    obtain ⟨k, hk, rfl⟩ := dI_get hget
    rw [kI_kV] at hq
    have iq : IT H3 qa k := hq
    obtain ⟨v, hv, hvm⟩ := valV_of_mem (List.mem_of_getElem? hk)
    obtain ⟨la, as, ev, hne, ela, ias⟩ := vals1 _ hvm
    dsimp only at ev ias
    subst ev
    have ed3 := s1 _ _ ed1
    have gD : DGet H3 d2 (.ref qa) (some (.ref la)) := by
      rw [← hv]
      exact dgetF ed3 iq
    refine ⟨rfl, ?_⟩
    refine ⟨_, rfl, ?_⟩
    refine ⟨_, rfl, ?_⟩
    refine ⟨_, _, rfl, gD, ?_⟩
    have ela3 := s1 _ _ ela
    refine ⟨_, rfl, ⟨_, .of ela3⟩, ?_⟩
    intro D2 hD2
    have ias3 := ITs.kt (KT.of s1) ias
    refine lc_it (walk_list (xs := as.map V.ref)) (PvLc H3 D2 (RI fun j => ((succ ks es k).take j).filter fun z => decide (z ∈ l2.map (·.1)))) (PvLc.zero RI.st hD2 (RI.zero rfl)) (fun j H4 _ p => ?_) (fun j x H4 H5 hj p y => ?_) (fun H4 p => ?_)
    · obtain ⟨acc, eD2, hl, s2, hr⟩ := p
      exact .of (s2 _ _ ela3)
    · obtain ⟨acc2, eD2, hal2, s2, hr2⟩ := p
      obtain ⟨rfl, hx⟩ := y
      obtain ⟨a1, z, rfl, ea1, ez, iz⟩ := its_get ias3 hx
      refine ⟨rfl, ?_⟩
      refine ⟨_, rfl, ?_⟩
      refine ⟨_, rfl, ?_⟩
      refine ⟨_, _, rfl, dgetF (s2 _ _ ed3) (IT.kt (KT.of s2) iz), ?_⟩
      rw [valV_isSome]
      refine ⟨_, rfl, ?_⟩
      have hj' : j < 10000000 := by
        have e1 := ias3.length
        have e2 := hsl k
        rw [List.length_map] at hj
        omega
      refine ifB (fun e => ?_) (fun e => ?_)
      · refine ⟨_, rfl, ?_⟩
        exact PvLc.put RI.st hD2 eD2 hal2 s2 (Same.refl _) (RI.snoc hr2 (KT.refl _) (IT.kt (KT.of s2) iz) (filter_pos ez e)) hj'
      · exact PvLc.skip eD2 hal2 s2 (Same.refl _) (RI.same hr2 (KT.refl _) (filter_neg ez e))
    · obtain ⟨acc2, eD2, hal2, s2, cs, rfl, hcs⟩ := p
      have e5 : (succ ks es k).take (as.map V.ref).length = succ ks es k := List.take_of_length_le (by rw [List.length_map]; have := ias.length; omega)
      dsimp only at hcs
      rw [e5] at hcs
      refine ⟨Nat.zero_le _, fun p hp => ?_⟩
      have s3 : Same H4 (upd H4 p (.lst [])) := same_new hp
      refine ⟨_, _, dp_lst (s3 _ _ eD2) (ITs.kt (KT.of s3) hcs), dp_nil upd_same, shaped_its _, shaped_nil, ?_⟩
      rw [eqv_nil]
      refine ⟨_, rfl, ?_⟩
      have s4 : Same H3 (upd H4 p (.lst [])) := s2.trans s3
      have ec : decide (List.map encI (List.filter (fun z => decide (z ∈ List.map (fun x => x.1) l2)) (succ ks es k)) = []) = calm ks es (l2.map (·.1)) k := by
        unfold calm
        rw [Bool.eq_iff_iff, decide_eq_true_iff, decide_eq_true_iff, List.map_eq_nil_iff]
      rw [ec]
      have hi' : i < 10000000 := by
        rw [dI_len] at hi
        omega
      refine ifB (fun e => ?_) (fun e => ?_)
      · refine ⟨_, rfl, ?_⟩
        exact PvLc.put RI.st hD eD hal s1 s4 (RI.snoc hr (KT.of s4) (IT.kt (KT.of s4) iq) (filter_pos hk e)) hi'
      · exact PvLc.skip eD hal s1 s4 (RI.same hr (KT.of s4) (filter_neg hk e))
  · obtain ⟨acc, eD, hal, s1, bs, rfl, hbs⟩ := p
    have ed2 := s1 _ _ ed1
    refine ⟨ed2, ?_⟩
    have e5 : (l2.map (·.1)).take (dI l2).length = l2.map (·.1) := List.take_of_length_le (by rw [List.length_map, dI_len]; omega)
    dsimp only at hbs
    rw [e5] at hbs
    have hDd : D ≠ d2 := fun z => by
      rw [z, ed1] at hD
      cases hD
    exact q D bs _ (un1 _ s1) (none1 _ hD) (by rw [upd_ne hDd]; exact eD) (ITs.kt (kt_unlock ed2) hbs)
/-- [(here, left[here]) for here in left.keys() if here not in ends] -/
def restT (K : PySem.W.Frag) : TE := tLockE (tLc (iKeysMT (tVar 2)) (gName 4) (tTest (tOp (rNotInD K) (tVar 4) (tVar 3))) (tTup (tCons (tVar 4) (tCons (tDGet (tVar 2) (tVar 4)) tNil))) [4])
theorem rest_ok {l2 : List (List Int × V)} {E : List (List Int)} {d2 le : Addr} {be : List Addr} {v0 v1 : Option V} {H : Hp} {Q : VK} (nd : (l2.map (·.1)).Nodup) (ed : H d2 = some (.dT (dI l2))) (ee : H le = some (.lst (be.map V.ref))) (ie : ITs H be E) (hl : l2.length ≤ 1000)
    (q : ∀ D bs H', Same H H' → H D = none → H' D = some (.lst (bs.map V.ref)) → Paired (PairK H') bs (l2.filter fun kv => !decide (kv.1 ∈ E)) → Q (.ref D) H') : restT K [v0, v1, some (.ref d2), some (.ref le), none, none] H Q := by
  refine ⟨d2, _, ed, trivial, fun od => ?_⟩
  have k1 : KT H (upd H d2 (.frz od (.dT (dI l2)))) := KT.dT ed
  have ed1 : (upd H d2 (.frz od (.dT (dI l2)))) d2 = some (.frz od (.dT (dI l2))) := upd_same
  have un1 : ∀ H', Same (upd H d2 (.frz od (.dT (dI l2)))) H' → Same H (upd H' d2 (.dT (dI l2))) := fun H' s => same_unlock ed s
  have none1 : ∀ p, (upd H d2 (.frz od (.dT (dI l2)))) p = none → H p = none := fun p hp => by
    by_cases e : p = d2
    · rw [e, ed1] at hp
      cases hp
    · rwa [upd_ne e] at hp
  have ee1 : (upd H d2 (.frz od (.dT (dI l2)))) le = some (.lst (be.map V.ref)) := by
    rw [upd_ne (fun z => by rw [z, ed] at ee; cases ee)]
    exact ee
  have ie1 := ITs.kt k1 ie
  generalize (upd H d2 (.frz od (.dT (dI l2)))) = H1 at k1 ed1 un1 none1 ee1 ie1 ⊢
  have pkt : ∀ (H H' : Hp) (a : Addr) (b : List Int × V), KT H H' → PairK H a b → PairK H' a b := fun H H' a b k ⟨ka, h1, h2⟩ => ⟨ka, k _ _ h1, IT.kt k h2⟩
  refine ⟨_, rfl, ?_⟩
  refine ⟨_, _, _, rfl, ed1, ?_⟩
  intro D hD
  refine lc_it walk_keysT (PvLc H1 D (RP PairK fun i => (l2.take i).filter fun kv => !decide (kv.1 ∈ E))) (PvLc.zero (RP.st pkt) hD (RP.zero rfl)) (fun i H2 _ p => ?_) (fun i x H2 H3 hi p y => ?_) (fun H2 p => ?_)
  · obtain ⟨acc, eD, hl, s1, hr⟩ := p
    exact s1 _ _ ed1
  · obtain ⟨acc, eD, hal, s1, hr⟩ := p
    obtain ⟨rfl, kk, v, qa, hget, rfl, hq⟩ := y
    have hget' := hget
    unfold dI at hget'
    rw [List.getElem?_map] at hget'
    obtain ⟨kv, hkv, e⟩ := Option.map_eq_some_iff.mp hget'
    cases e
    obtain ⟨k, v⟩ := kv
    dsimp only at hget hq
    rw [kI_kV] at hq
    have iq : IT H3 qa k := hq
    have hv : valV l2 k = some v := valV_nd nd (List.mem_of_getElem? hkv)
    have ed3 := s1 _ _ ed1
    refine ⟨rfl, ?_⟩
    refine ⟨_, rfl, ?_⟩
    refine ⟨_, rfl, ?_⟩
    refine ⟨_, _, IT.dp iq, dp_lst (s1 _ _ ee1) (ITs.kt (KT.of s1) ie1), shaped_encI _, shaped_its _, ?_⟩
    rw [any_encI]
    refine ⟨_, rfl, ?_⟩
    have hi' : i < 10000000 := by
      rw [dI_len] at hi
      omega
    refine ifB (fun e => ?_) (fun e => ?_)
    · refine ⟨_, rfl, ?_⟩
      refine ⟨_, rfl, ?_⟩
      refine ⟨_, rfl, ?_⟩
      have gD : DGet H3 d2 (.ref qa) (some v) := by
        rw [← hv]
        exact dgetF ed3 iq
      refine ⟨_, _, rfl, gD, ?_⟩
      refine ⟨by show 2 ≤ sizeLine; decide, fun p hp => ?_⟩
      have s4 : Same H3 (upd H3 p (.tup [.ref qa, v])) := same_new hp
      have pk : PairK (upd H3 p (.tup [.ref qa, v])) p (k, v) := ⟨qa, upd_same, IT.kt (KT.of s4) iq⟩
      exact PvLc.put (RP.st pkt) hD eD hal s1 s4 (RP.snoc (F := PairK) pkt hr (KT.of s4) pk (filter_pos hkv e)) hi'
    · refine PvLc.skip eD hal s1 (Same.refl _) ?_
      obtain ⟨as, e1, e2⟩ := hr
      refine ⟨as, e1, ?_⟩
      dsimp only
      rw [filter_neg hkv e]
      exact e2
  · obtain ⟨acc, eD, hal, s1, bs, rfl, hbs⟩ := p
    have ed2 := s1 _ _ ed1
    refine ⟨ed2, ?_⟩
    have e5 : l2.take (dI l2).length = l2 := List.take_of_length_le (by rw [dI_len]; omega)
    dsimp only at hbs
    rw [e5] at hbs
    have hDd : D ≠ d2 := fun z => by
      rw [z, ed1] at hD
      cases hD
    exact q D bs _ (un1 _ s1) (none1 _ hD) (by rw [upd_ne hDd]; exact eD) (Paired.mono (fun _ _ h => pkt _ _ _ _ (kt_unlock ed2) h) hbs)
theorem ok_order_in (T : Txt K mg) : FnAt P w K mg base CX0 1 "order_in" ["told"] sp_order := by
  refine fn_body T.d_order_in sc_order_in (fun _ _ _ _ _ _ us hl => match us, hl with | [_], _ => rfl) ?_ (fun f cdv A outer s H vs Q E hr h => ?_)
  · rintro vs H Q E ⟨_, _, _, _, _, _, _, _, rfl, _⟩
    rfl
  · have hu65 : (A.deeper (envOfC "order_in" (defScope s_order_in) s.heap.objs.size f cdv)).units + 65 < cLine := by
      have := hr.un
      omega
    have hu3 : (A.deeper (envOfC "order_in" (defScope s_order_in) s.heap.objs.size f cdv)).units + 3 < cLine := by
      have := hr.un
      omega
    refine ⟨_, PSs.nox (pss_cons (ps_asg (pe_tup (pa_cons (pe_lst pa_nil) (pa_cons (pe_callTy (call_dictT hu3) rfl T.b_dict (by decide +kernel) (pa_cons (pv 0) pa_nil)) pa_nil))) (pg_tup rfl (pgs_cons (pg_name (i := 1) sc_order_in.nd rfl (Or.inl rfl)) (pgs_cons (pg_name (i := 2) sc_order_in.nd rfl (Or.inr rfl)) pgs_nil))))
    (pss_cons (ps_while PassesOwn.never (pt_cmpR (op_neT0 hr.units0) (pv 2) pe_dnewT (nomark _)) (pss_cons (ps_set (i := 3) sc_order_in.nd rfl (Or.inr rfl) (pe_lock (pe_lc (own := [("here", 4)]) rfl sc_order_in.nd (pi_keysMT (pv 2)) (blkOk_by (N := N_order_in) (sc := defScope s_order_in) (by decide +kernel)) (fun _ _ _ _ _ => (pg_name (i := 4) sc_order_in.nd rfl (Or.inl rfl))) (fun _ _ _ _ _ => (pts_one (pt_cmpR (show OpR _ _ (rEqD K) from (op_eqD hr.units)) (pe_lc (own := [("there", 5)]) rfl sc_order_in.nd (show PI _ _ _ (iList K _) from (pi_list (pe_dget (hu_of hr) (pv 2) (pv 4) (fun _ _ => rfl)))) (blkOk_by (by kernel_rfl)) (fun _ _ _ _ _ => (pg_name (i := 5) sc_order_in.nd rfl (Or.inl rfl))) (fun _ _ _ _ _ => (pts_one (pt_cmp (pc_din (hu_of hr) (pv 5) (pv 2))))) (fun _ _ _ _ _ => (pv 5))) (pe_lst pa_nil) (nomark _)))) (fun _ _ _ _ _ => (pv 4)))))
    (pss_cons (ps_if (pt_cmpR (op_eqD hr.units) (pv 3) (pe_lst pa_nil) (nomark _)) (pss_one (ps_ret pe_non)) pss_nil)
    (pss_cons (ps_set (i := 1) sc_order_in.nd rfl (Or.inl rfl) (pe_op op_cat (pv 1) (pe_callB (cr_sortedT hr.units) rfl T.b_sorted (by decide +kernel) (pa_cons (pv 3) pa_nil))))
    (pss_one (ps_set (i := 2) sc_order_in.nd rfl (Or.inr rfl) (pe_callTy (call_dictPT rfl hu3) rfl T.b_dict (by decide +kernel) (pa_cons (pe_lock (pe_lc (own := [("here", 4)]) rfl sc_order_in.nd (pi_keysMT (pv 2)) (blkOk_by (N := N_order_in) (sc := defScope s_order_in) (by decide +kernel)) (fun _ _ _ _ _ => (pg_name (i := 4) sc_order_in.nd rfl (Or.inl rfl))) (fun _ _ _ _ _ => (pts_one (pt_cmpR (show OpR _ _ (rNotInD K) from (op_notInD hu65)) (pv 4) (pv 3) rfl))) (fun _ _ _ _ _ => (pe_tup (pa_cons (pv 4) (pa_cons (pe_dget (hu_of hr) (pv 2) (pv 4) (fun _ _ => rfl)) pa_nil)))))) pa_nil))))))))
    (pss_one (ps_ret (pv 1))))), ?_⟩
    obtain ⟨d, x, n, m, ks, es, s, l, rfl, o, wd, ed, vals, q1, q2⟩ := h
    refine ⟨Nat.zero_le _, fun lf0 hlf0 => ?_⟩
    refine ⟨_, rfl, ?_⟩
    refine ⟨_, _, _, rfl, same_new hlf0 _ _ ed, keysI_dI l, hash_L o wd.nd wd.okL, fun d0 hd0 => ?_⟩
    have s1 : Same H (upd (upd H lf0 (.lst [])) d0 (.dT (dI l))) := (same_new hlf0).trans (same_new hd0)
    have ed1 : (upd (upd H lf0 (.lst [])) d0 (.dT (dI l))) d0 = some (.dT (dI l)) := upd_same
    have ef1 : (upd (upd H lf0 (.lst [])) d0 (.dT (dI l))) lf0 = some (.lst (([] : List Addr).map V.ref)) := same_new hd0 _ _ upd_same
    have hd0N : H d0 = none := same_none (same_new hlf0) hd0
    have vals1 : ValsAt ks es d0 (upd (upd H lf0 (.lst [])) d0 (.dT (dI l))) l := (vals.other hd0N).same s1
    generalize (upd (upd H lf0 (.lst [])) d0 (.dT (dI l))) = H1 at s1 ed1 ef1 vals1 ⊢
    refine ⟨by show 2 ≤ sizeLine; decide, fun t0 ht0 => ?_⟩
    have s2 : Same H1 (upd H1 t0 (.tup [.ref lf0, .ref d0])) := same_new ht0
    have et : (upd H1 t0 (.tup [.ref lf0, .ref d0])) t0 = some (.tup [.ref lf0, .ref d0]) := upd_same
    have s3 := s1.trans s2
    have ed2 := s2 _ _ ed1
    have ef2 := s2 _ _ ef1
    have vals2 := vals1.same s2
    generalize (upd H1 t0 (.tup [.ref lf0, .ref d0])) = H2 at s2 et s3 ed2 ef2 vals2 ⊢
    refine ⟨_, _, rfl, .of et, rfl, ?_⟩
    refine ⟨_, _, rfl, ?_⟩
    refine ⟨_, _, rfl, ?_⟩
    refine ⟨rfl, ?_⟩
    refine ⟨OrdW d H ks es (l.map (·.1)), ⟨_, l, d0, lf0, [], [], none, rfl, s3, hlf0, hd0N, ed2, ef2, .nil, vals2, OInv.init wd, rfl⟩, ?_⟩
    rintro mm σ H3 ⟨l2, d2, lf, fs, F, o3, rfl, t1, nlf, nd2, e2, ef, ifs, vals3, inv, rfl⟩
    have hl2 : l2.length ≤ 1000 := by
      have h1 := len_L o inv.nd2 (fun k hk => wd.okL k (inv.sub2 k hk))
      rw [List.length_map] at h1
      omega
    refine ⟨_, rfl, ?_⟩
    intro p9 hp9
    have t2 : Same H3 (upd H3 p9 (.dT [])) := same_new hp9
    refine ⟨_, _, _, rfl, rfl, t2 _ _ e2, upd_same, ?_⟩
    have t3 := t1.trans t2
    have e3 := t2 _ _ e2
    have ef3 := t2 _ _ ef
    have ifs3 := ITs.kt (KT.of t2) ifs
    have vals4 := vals3.same t2
    generalize (upd H3 p9 (.dT [])) = H4 at t2 t3 e3 ef3 ifs3 vals4 ⊢
    refine ⟨_, rfl, ?_⟩
    refine ifB (fun e => ?_) (fun e => ?_)
    · have hne : l2.map (·.1) ≠ [] := fun z => by
        have : l2 = [] := List.map_eq_nil_iff.mp z
        subst this
        simp [dI] at e
      refine ⟨fun σ' H' => ∃ m', m' < l2.length ∧ OrdW d H ks es (l.map (·.1)) m' σ' H', fun _ _ h => h, ?_⟩
      refine ends_ok e3 vals4 hl2 (fun k => succ_len o) fun le be H5 t4 hle ele ibe => ?_
      have t5 := t3.trans t4
      have e4 := t4 _ _ e3
      have ef4 := t4 _ _ ef3
      have ifs4 := ITs.kt (KT.of t4) ifs3
      have vals5 := vals4.same t4
      refine ⟨_, rfl, ?_⟩
      refine ⟨Nat.zero_le _, fun p5 hp5 => ?_⟩
      have t6 : Same H5 (upd H5 p5 (.lst [])) := same_new hp5
      refine ⟨_, _, dp_lst (t6 _ _ ele) (ITs.kt (KT.of t6) ibe), dp_nil upd_same, shaped_its _, shaped_nil, ?_⟩
      rw [eqv_nil]
      have t7 := t5.trans t6
      have e5 := t6 _ _ e4
      have ef5 := t6 _ _ ef4
      have ele5 := t6 _ _ ele
      have ibe5 := ITs.kt (KT.of t6) ibe
      have ifs5 := ITs.kt (KT.of t6) ifs4
      have vals6 := vals5.same t6
      generalize (upd H5 p5 (.lst [])) = H6 at t6 t7 e5 ef5 ele5 ibe5 ifs5 vals6 ⊢
      refine ⟨_, rfl, ?_⟩
      have hE : ∀ k ∈ (l2.map (·.1)).filter (calm ks es (l2.map (·.1))), k ∈ l2.map (·.1) := fun k hk => (List.mem_filter.mp hk).1
      have hbl := ibe5.length
      have hEl : ((l2.map (·.1)).filter (calm ks es (l2.map (·.1)))).length ≤ l2.length := by
        have := List.length_filter_le (calm ks es (l2.map (·.1))) (l2.map (·.1))
        rwa [List.length_map] at this
      generalize hEe : (l2.map (·.1)).filter (calm ks es (l2.map (·.1))) = Ee at ibe ibe5 hE hbl hEl ⊢
      refine ifB (fun e => ?_) (fun e => ?_)
      · have hE0 : Ee = [] := by simpa using e
        exact q1 _ t7 (OInv.stuck wd inv hne (by rw [hEe, hE0]))
      · have hE0 : Ee ≠ [] := fun z => by
          rw [z] at e
          simp at e
        refine ⟨_, rfl, ?_⟩
        refine ⟨_, rfl, ?_⟩
        have hm1 := o.web.1
        refine ⟨_, _, _, rfl, .of ele5, ibe5, fun k hk => ?_, by rw [sizeLine_is]; omega, fun p7 bs7 hp7 ibs7 => ?_⟩
        · rintro rfl
          have := (wd.okL [] (inv.sub2 _ (hE _ hk))).2
          simp at this
          omega
        have t8 : Same H6 (upd H6 p7 (.lst (bs7.map V.ref))) := same_new hp7
        have n7 : (upd H6 p7 (.lst (bs7.map V.ref))) p7 = some (.lst (bs7.map V.ref)) := upd_same
        have n7' := ITs.kt (KT.of t8) ibs7
        have t9 := t7.trans t8
        have e6 := t8 _ _ e5
        have ef6 := t8 _ _ ef5
        have ele6 := t8 _ _ ele5
        have ibe6 := ITs.kt (KT.of t8) ibe5
        have ifs6 := ITs.kt (KT.of t8) ifs5
        have vals7 := vals6.same t8
        generalize (upd H6 p7 (.lst (bs7.map V.ref))) = H7 at t8 n7 n7' t9 e6 ef6 ele6 ibe6 ifs6 vals7 ⊢
        have hfl := ifs6.length
        have hb7 := n7'.length
        rw [List.length_mergeSort] at hb7
        have hFl := inv.len
        have hLl := len_L o wd.nd wd.okL
        have hsz : (fs.map V.ref).length + (bs7.map V.ref).length ≤ sizeLine := by
          rw [List.length_map, List.length_map, sizeLine_is]
          omega
        refine ⟨_, _, _, _, rfl, rfl, ef6, n7, hsz, fun p8 hp8 => ?_⟩
        have u1 : Same H7 (upd H7 p8 (.lst (fs.map V.ref ++ bs7.map V.ref))) := same_new hp8
        have u2 : (upd H7 p8 (.lst (fs.map V.ref ++ bs7.map V.ref))) p8 = some (.lst ((fs ++ bs7).map V.ref)) := by rw [upd_same, List.map_append]
        have u3 := t9.trans u1
        have np8 : H p8 = none := same_none t9 hp8
        have e7 := u1 _ _ e6
        have ele7 := u1 _ _ ele6
        have ibe7 := ITs.kt (KT.of u1) ibe6
        have ifs7 : ITs (upd H7 p8 (.lst (fs.map V.ref ++ bs7.map V.ref))) (fs ++ bs7) (F ++ Ee.mergeSort leI) := paired_append (ITs.kt (KT.of u1) ifs6) (ITs.kt (KT.of u1) n7')
        have vals8 := vals7.same u1
        generalize (upd H7 p8 (.lst (fs.map V.ref ++ bs7.map V.ref))) = H8 at u1 u2 u3 e7 ele7 ibe7 ifs7 vals8 ⊢
        refine rest_ok inv.nd2 e7 ele7 ibe7 hl2 fun D3 ps3 H9 u4 hD3 eD3 pps => ?_
        have nd3 : ((l2.filter fun kv => !decide (kv.1 ∈ Ee)).map (·.1)) = (l2.map (·.1)).filter fun k => !decide (k ∈ Ee) := by
          rw [List.filter_map]
          rfl
        have inv2 := OInv.step (S := Ee.mergeSort leI) wd inv (fun k => by rw [List.mem_mergeSort, hEe]) (by rw [List.length_mergeSort, hEe])
        have less := OInv.less (ks := ks) (es := es) (L2 := l2.map (·.1)) (by rw [hEe]; exact hE0)
        rw [hEe, ← nd3] at inv2
        rw [hEe, ← nd3, List.length_map, List.length_map] at less
        refine ⟨_, _, _, rfl, .of eD3, pps, inv2.nd2, fun d3 hd3 => ?_⟩
        have u5 : Same H9 (upd H9 d3 (.dT ((l2.filter fun kv => !decide (kv.1 ∈ Ee)).map fun kv => (kI kv.1, kv.2)))) := same_new hd3
        have u6 := u3.trans (u4.trans u5)
        have nd3' : H d3 = none := same_none (u3.trans u4) hd3
        have e9 : (upd H9 d3 (.dT ((l2.filter fun kv => !decide (kv.1 ∈ Ee)).map fun kv => (kI kv.1, kv.2)))) d3 = some (.dT (dI (l2.filter fun kv => !decide (kv.1 ∈ Ee)))) := upd_same
        have u7 := u4.trans u5
        have ef9 := u7 _ _ u2
        have ifs9 := ITs.kt (KT.of u7) ifs7
        have h8N : H8 d3 = none := same_none u4 hd3
        have vals9 : ValsAt ks es d3 H8 (l2.filter fun kv => !decide (kv.1 ∈ Ee)) := fun kv hk => (vals8.other h8N) kv (List.mem_filter.mp hk).1
        have vals10 := vals9.same u7
        generalize (upd H9 d3 (.dT ((l2.filter fun kv => !decide (kv.1 ∈ Ee)).map fun kv => (kI kv.1, kv.2)))) = H10 at u5 u6 e9 u7 ef9 ifs9 vals10 ⊢
        refine ⟨_, less, ?_⟩
        exact ⟨_, d3, p8, fs ++ bs7, F ++ Ee.mergeSort leI, some (.ref le), rfl, u6, np8, nd3', e9, ef9, ifs9, vals10, inv2, rfl⟩
    · have hl0 : l2 = [] := by
        have h := of_decide_eq_true (by simpa using e : decide (dI l2 = []) = true)
        unfold dI at h
        exact List.map_eq_nil_iff.mp h
      subst hl0
      refine ⟨_, rfl, ?_⟩
      exact q2 lf fs F _ t3 nlf ef3 ifs3 (OInv.done o wd inv)
end
end K4
set_option Elab.async false
set_option linter.all false
set_option maxRecDepth 100000
set_option maxHeartbeats 400000
/-! _law_layers -/
namespace K4
open PySem PySem.Spec PyProof.Rows L2 K4R
section
variable {P : Program} {w : World} {K : PySem.W.Frag} {mg : Str → Option Value} {base : Heap}
def calmT (K : PySem.W.Frag) : TE := tLc (iList K (tVar 2)) (gName 4) (tTest (tOp (rEqD K) (tLc (iList K (tDGet (tVar 0) (tVar 4))) (gName 5) (tTest (tOp (rInD K) (tVar 5) (tVar 2))) (tVar 5) [5]) (tLst tNil))) (tVar 4) [4]
theorem calm_ok {ks es : List (List Int)} {l : List (List Int × V)} {L2 : List (List Int)} {d ll x : Addr} {bl : List Addr} {v1 o3 : Option V} {H : Hp} {Q : VK} (ed : H d = some (.dT (dI l))) (vals : ValsAt ks es x H l) (el : H ll = some (.lst (bl.map V.ref))) (il : ITs H bl L2) (sub : ∀ k ∈ L2, k ∈ l.map (·.1))
    (hl : L2.length ≤ 1000) (hsl : ∀ k, (succ ks es k).length ≤ 60)
    (q : ∀ D bs H', Same H H' → H D = none → H' D = some (.lst (bs.map V.ref)) → ITs H' bs (L2.filter (calm ks es L2)) → Q (.ref D) H') : calmT K [some (.ref d), v1, some (.ref ll), o3, none, none] H Q := by
  refine ⟨_, rfl, ?_⟩
  refine ⟨_, rfl, ⟨_, .of el⟩, ?_⟩
  intro D hD
  refine lc_it (walk_list (xs := bl.map V.ref)) (PvLc H D (RI fun i => (L2.take i).filter (calm ks es L2))) (PvLc.zero RI.st hD (RI.zero rfl)) (fun i H2 _ p => ?_) (fun i x H2 H3 hi p y => ?_) (fun H2 p => ?_)
  · obtain ⟨acc, eD, hl, s1, hr⟩ := p
    exact .of (s1 _ _ el)
  · obtain ⟨acc, eD, hal, s1, hr⟩ := p
    obtain ⟨rfl, hx⟩ := y
    obtain ⟨qa, k, rfl, ea, hk, iq0⟩ := its_get il hx
    have iq : IT H3 qa k := IT.kt (KT.of s1) iq0
    obtain ⟨v, hv, hvm⟩ := valV_of_mem (sub k (List.mem_of_getElem? hk))
    obtain ⟨la, as, ev, hne, ela, ias⟩ := vals _ hvm
    dsimp only at ev ias
    subst ev
    have ed3 := s1 _ _ ed
    have gD : DGet H3 d (.ref qa) (some (.ref la)) := by
      rw [← hv]
      exact dget ed3 iq
    refine ⟨rfl, ?_⟩
    refine ⟨_, rfl, ?_⟩
    refine ⟨_, rfl, ?_⟩
    refine ⟨_, _, rfl, gD, ?_⟩
    have ela3 := s1 _ _ ela
    refine ⟨_, rfl, ⟨_, .of ela3⟩, ?_⟩
    intro D2 hD2
    have ias3 := ITs.kt (KT.of s1) ias
    refine lc_it (walk_list (xs := as.map V.ref)) (PvLc H3 D2 (RI fun j => ((succ ks es k).take j).filter fun z => decide (z ∈ L2))) (PvLc.zero RI.st hD2 (RI.zero rfl)) (fun j H4 _ p => ?_) (fun j x H4 H5 hj p y => ?_) (fun H4 p => ?_)
    · obtain ⟨acc, eD2, hl, s2, hr⟩ := p
      exact .of (s2 _ _ ela3)
    · obtain ⟨acc2, eD2, hal2, s2, hr2⟩ := p
      obtain ⟨rfl, hx⟩ := y
      obtain ⟨a1, z, rfl, ea1, ez, iz⟩ := its_get ias3 hx
      refine ⟨rfl, ?_⟩
      refine ⟨_, rfl, ?_⟩
      refine ⟨_, rfl, ?_⟩
      have s12 := s1.trans s2
      refine ⟨_, _, IT.dp (IT.kt (KT.of s2) iz), dp_lst (s12 _ _ el) (ITs.kt (KT.of s12) il), shaped_encI _, shaped_its _, ?_⟩
      rw [any_encI]
      refine ⟨_, rfl, ?_⟩
      have hj' : j < 10000000 := by
        have e1 := ias3.length
        have e2 := hsl k
        rw [List.length_map] at hj
        omega
      refine ifB (fun e => ?_) (fun e => ?_)
      · refine ⟨_, rfl, ?_⟩
        exact PvLc.put RI.st hD2 eD2 hal2 s2 (Same.refl _) (RI.snoc hr2 (KT.refl _) (IT.kt (KT.of s2) iz) (filter_pos ez e)) hj'
      · exact PvLc.skip eD2 hal2 s2 (Same.refl _) (RI.same hr2 (KT.refl _) (filter_neg ez e))
    · obtain ⟨acc2, eD2, hal2, s2, cs, rfl, hcs⟩ := p
      have e5 : (succ ks es k).take (as.map V.ref).length = succ ks es k := List.take_of_length_le (by rw [List.length_map]; have := ias.length; omega)
      dsimp only at hcs
      rw [e5] at hcs
      refine ⟨Nat.zero_le _, fun p hp => ?_⟩
      have s3 : Same H4 (upd H4 p (.lst [])) := same_new hp
      refine ⟨_, _, dp_lst (s3 _ _ eD2) (ITs.kt (KT.of s3) hcs), dp_nil upd_same, shaped_its _, shaped_nil, ?_⟩
      rw [eqv_nil]
      refine ⟨_, rfl, ?_⟩
      have s4 : Same H3 (upd H4 p (.lst [])) := s2.trans s3
      have ec : decide (List.map encI (List.filter (fun z => decide (z ∈ L2)) (succ ks es k)) = []) = calm ks es L2 k := by
        unfold calm
        rw [Bool.eq_iff_iff, decide_eq_true_iff, decide_eq_true_iff, List.map_eq_nil_iff]
      rw [ec]
      have hi' : i < 10000000 := by
        rw [List.length_map] at hi
        have := il.length
        omega
      refine ifB (fun e => ?_) (fun e => ?_)
      · refine ⟨_, rfl, ?_⟩
        exact PvLc.put RI.st hD eD hal s1 s4 (RI.snoc hr (KT.of s4) (IT.kt (KT.of s4) iq) (filter_pos hk e)) hi'
      · exact PvLc.skip eD hal s1 s4 (RI.same hr (KT.of s4) (filter_neg hk e))
  · obtain ⟨acc, eD, hal, s1, bs, rfl, hbs⟩ := p
    have e5 : L2.take (bl.map V.ref).length = L2 := List.take_of_length_le (by rw [List.length_map]; have := il.length; omega)
    dsimp only at hbs
    rw [e5] at hbs
    exact q D bs _ s1 hD eD hbs
def leftT (K : PySem.W.Frag) : TE := tLc (iList K (tVar 2)) (gName 4) (tTest (tOp (rNotInD K) (tVar 4) (tVar 3))) (tVar 4) [4]
theorem left_ok {L2 E : List (List Int)} {ll le : Addr} {bl be : List Addr} {v0 v1 : Option V} {H : Hp} {Q : VK} (el : H ll = some (.lst (bl.map V.ref))) (il : ITs H bl L2) (ee : H le = some (.lst (be.map V.ref))) (ie : ITs H be E) (hl : L2.length ≤ 1000)
    (q : ∀ D bs H', Same H H' → H D = none → H' D = some (.lst (bs.map V.ref)) → ITs H' bs (L2.filter fun k => !decide (k ∈ E)) → Q (.ref D) H') : leftT K [v0, v1, some (.ref ll), some (.ref le), none, none] H Q := by
  refine ⟨_, rfl, ?_⟩
  refine ⟨_, rfl, ⟨_, .of el⟩, ?_⟩
  intro D hD
  refine lc_it (walk_list (xs := bl.map V.ref)) (PvLc H D (RI fun i => (L2.take i).filter fun k => !decide (k ∈ E))) (PvLc.zero RI.st hD (RI.zero rfl)) (fun i H2 _ p => ?_) (fun i x H2 H3 hi p y => ?_) (fun H2 p => ?_)
  · obtain ⟨acc, eD, hl, s1, hr⟩ := p
    exact .of (s1 _ _ el)
  · obtain ⟨acc, eD, hal, s1, hr⟩ := p
    obtain ⟨rfl, hx⟩ := y
    obtain ⟨qa, k, rfl, ea, hk, iq0⟩ := its_get il hx
    have iq : IT H3 qa k := IT.kt (KT.of s1) iq0
    refine ⟨rfl, ?_⟩
    refine ⟨_, rfl, ?_⟩
    refine ⟨_, rfl, ?_⟩
    refine ⟨_, _, IT.dp iq, dp_lst (s1 _ _ ee) (ITs.kt (KT.of s1) ie), shaped_encI _, shaped_its _, ?_⟩
    rw [any_encI]
    refine ⟨_, rfl, ?_⟩
    have hi' : i < 10000000 := by
      rw [List.length_map] at hi
      have := il.length
      omega
    refine ifB (fun e => ?_) (fun e => ?_)
    · refine ⟨_, rfl, ?_⟩
      exact PvLc.put RI.st hD eD hal s1 (Same.refl _) (RI.snoc hr (KT.refl _) iq (filter_pos hk e)) hi'
    · exact PvLc.skip eD hal s1 (Same.refl _) (RI.same hr (KT.refl _) (filter_neg hk e))
  · obtain ⟨acc, eD, hal, s1, bs, rfl, hbs⟩ := p
    have e5 : L2.take (bl.map V.ref).length = L2 := List.take_of_length_le (by rw [List.length_map]; have := il.length; omega)
    dsimp only at hbs
    rw [e5] at hbs
    exact q D bs _ s1 hD eD hbs
/-- while the layers grow -/
def LayW (d : Addr) (H : Hp) (ks es L : List (List Int)) : Nat → L2.St → Hp → Prop := fun mm σ H2 => ∃ (L2 F : List (List Int)) (ll lf : Addr) (ls fs : List Addr) (o3 : Option V),
  σ = [some (.ref d), some (.ref lf), some (.ref ll), o3, none, none] ∧ Same H H2 ∧ H lf = none ∧ H2 ll = some (.lst (ls.map V.ref)) ∧ ITs H2 ls L2 ∧ H2 lf = some (.lst (fs.map V.ref)) ∧ ITs H2 fs F ∧ OInv ks es L F L2 ∧ mm = L2.length
theorem ok_law_layers (T : Txt K mg) : FnAt P w K mg base CX0 1 "_law_layers" ["_law_told"] sp_order := by
  refine fn_body T.d_law_layers sc_law_layers (fun _ _ _ _ _ _ us hl => match us, hl with | [_], _ => rfl) ?_ (fun f cdv A outer s H vs Q E hr h => ?_)
  · rintro vs H Q E ⟨_, _, _, _, _, _, _, _, rfl, _⟩
    rfl
  · have hu65 : (A.deeper (envOfC "_law_layers" (defScope s_law_layers) s.heap.objs.size f cdv)).units + 65 < cLine := by
      have := hr.un
      omega
    refine ⟨_, PSs.nox (pss_cons (ps_asg (pe_tup (pa_cons (pe_lst pa_nil) (pa_cons (pe_callTy (call_listKeysT rfl) rfl T.b_list (by decide +kernel) (pa_cons (pe_bm0 PySem.F.plainAttrs_dict PySem.F.slot_dict_keys PySem.F.type_dict_keys mt_keysT (pv 0)) pa_nil)) pa_nil))) (pg_tup rfl (pgs_cons (pg_name (i := 1) sc_law_layers.nd rfl (Or.inl rfl)) (pgs_cons (pg_name (i := 2) sc_law_layers.nd rfl (Or.inr rfl)) pgs_nil))))
    (pss_cons (ps_while PassesOwn.never (pt_cmpR (op_neD hr.units) (pv 2) (pe_lst pa_nil) (nomark _)) (pss_cons (ps_set (i := 3) sc_law_layers.nd rfl (Or.inr rfl) (pe_lc (own := [("_law_here", 4)]) rfl sc_law_layers.nd (pi_list (pv 2)) (blkOk_by (N := N_law_layers) (sc := defScope s_law_layers) (by decide +kernel)) (fun _ _ _ _ _ => (pg_name (i := 4) sc_law_layers.nd rfl (Or.inl rfl))) (fun _ _ _ _ _ => (pts_one (pt_cmpR (show OpR _ _ (rEqD K) from (op_eqD hr.units)) (pe_lc (own := [("_law_there", 5)]) rfl sc_law_layers.nd (show PI _ _ _ (iList K _) from (pi_list (pe_dget (hu_of hr) (pv 0) (pv 4) (fun _ _ => rfl)))) (blkOk_by (by kernel_rfl)) (fun _ _ _ _ _ => (pg_name (i := 5) sc_law_layers.nd rfl (Or.inl rfl))) (fun _ _ _ _ _ => (pts_one (pt_cmpR (show OpR _ _ (rInD K) from (op_inD hu65)) (pv 5) (pv 2) rfl))) (fun _ _ _ _ _ => (pv 5))) (pe_lst pa_nil) (nomark _)))) (fun _ _ _ _ _ => (pv 4))))
    (pss_cons (ps_if (pt_cmpR (op_eqD hr.units) (pv 3) (pe_lst pa_nil) (nomark _)) (pss_one (ps_ret pe_non)) pss_nil)
    (pss_one (ps_asg (pe_tup (pa_cons (pe_op op_cat (pv 1) (pv 3)) (pa_cons (pe_lc (own := [("_law_here", 4)]) rfl sc_law_layers.nd (pi_list (pv 2)) (blkOk_by (N := N_law_layers) (sc := defScope s_law_layers) (by decide +kernel)) (fun _ _ _ _ _ => (pg_name (i := 4) sc_law_layers.nd rfl (Or.inl rfl))) (fun _ _ _ _ _ => (pts_one (pt_cmpR (show OpR _ _ (rNotInD K) from (op_notInD hu65)) (pv 4) (pv 3) rfl))) (fun _ _ _ _ _ => (pv 4))) pa_nil))) (pg_tup rfl (pgs_cons (pg_name (i := 1) sc_law_layers.nd rfl (Or.inl rfl)) (pgs_cons (pg_name (i := 2) sc_law_layers.nd rfl (Or.inr rfl)) pgs_nil))))))))
    (pss_one (ps_ret (pv 1))))), ?_⟩
    obtain ⟨d, x, n, m, ks, es, s, l, rfl, o, wd, ed, vals, q1, q2⟩ := h
    refine ⟨Nat.zero_le _, fun lf0 hlf0 => ?_⟩
    refine ⟨_, rfl, ?_⟩
    have s0 : Same H (upd H lf0 (.lst [])) := same_new hlf0
    have ed0 := s0 _ _ ed
    have ef0 : (upd H lf0 (.lst [])) lf0 = some (.lst (([] : List Addr).map V.ref)) := upd_same
    generalize (upd H lf0 (.lst [])) = H0 at s0 ed0 ef0 ⊢
    refine ⟨.inr (.inr (.inl ⟨rfl, .inr ⟨_, ed0⟩⟩)), ?_⟩
    refine ⟨_, _, rfl, rfl, ed0, fun v hv => ?_⟩
    have s1 : Same H0 (upd H0 v (keysO v d)) := same_new hv
    refine ⟨_, _, _, _, rfl, upd_same, s1 _ _ ed0, keysI_dI l, fun l2 bs hl2 hb => ?_⟩
    have s2 : Same _ (upd (upd H0 v (keysO v d)) l2 (.lst (bs.map V.ref))) := same_new hl2
    have s3 := s0.trans (s1.trans s2)
    have ef3 := s2 _ _ (s1 _ _ ef0)
    have el3 : (upd (upd H0 v (keysO v d)) l2 (.lst (bs.map V.ref))) l2 = some (.lst (bs.map V.ref)) := upd_same
    have il3 := ITs.kt (KT.of s2) hb
    generalize (upd (upd H0 v (keysO v d)) l2 (.lst (bs.map V.ref))) = H1 at s2 s3 ef3 el3 il3 ⊢
    refine ⟨by show 2 ≤ sizeLine; decide, fun t0 ht0 => ?_⟩
    have s4 : Same H1 (upd H1 t0 (.tup [.ref lf0, .ref l2])) := same_new ht0
    have et : (upd H1 t0 (.tup [.ref lf0, .ref l2])) t0 = some (.tup [.ref lf0, .ref l2]) := upd_same
    have s5 := s3.trans s4
    have ef4 := s4 _ _ ef3
    have el4 := s4 _ _ el3
    have il4 := ITs.kt (KT.of s4) il3
    generalize (upd H1 t0 (.tup [.ref lf0, .ref l2])) = H2 at s4 et s5 ef4 el4 il4 ⊢
    refine ⟨_, _, rfl, .of et, rfl, ?_⟩
    refine ⟨_, _, rfl, ?_⟩
    refine ⟨_, _, rfl, ?_⟩
    refine ⟨rfl, ?_⟩
    refine ⟨LayW d H ks es (l.map (·.1)), ⟨_, l.map (·.1), [], l2, lf0, bs, [], none, rfl, s5, hlf0, el4, il4, ef4, .nil, OInv.init wd, rfl⟩, ?_⟩
    rintro mm σ H3 ⟨L2, F, ll, lf, ls, fs, o3, rfl, t1, nlf, el, il, ef, ifs, inv, rfl⟩
    have hl2 : L2.length ≤ 256 := len_L o inv.nd2 (fun k hk => wd.okL k (inv.sub2 k hk))
    refine ⟨_, rfl, ?_⟩
    refine ⟨Nat.zero_le _, fun p9 hp9 => ?_⟩
    have t2 : Same H3 (upd H3 p9 (.lst [])) := same_new hp9
    refine ⟨_, _, dp_lst (t2 _ _ el) (ITs.kt (KT.of t2) il), dp_nil upd_same, shaped_its _, shaped_nil, ?_⟩
    rw [eqv_nil]
    have t3 := t1.trans t2
    have el1 := t2 _ _ el
    have il1 := ITs.kt (KT.of t2) il
    have ef1 := t2 _ _ ef
    have ifs1 := ITs.kt (KT.of t2) ifs
    generalize (upd H3 p9 (.lst [])) = H4 at t2 t3 el1 il1 ef1 ifs1 ⊢
    refine ⟨_, rfl, ?_⟩
    refine ifB (fun e => ?_) (fun e => ?_)
    · have hne : L2 ≠ [] := fun z => by
        rw [z] at e
        simp at e
      refine ⟨fun σ' H' => ∃ m', m' < L2.length ∧ LayW d H ks es (l.map (·.1)) m' σ' H', fun _ _ h => h, ?_⟩
      refine calm_ok (t3 _ _ ed) (vals.same t3) el1 il1 inv.sub2 (by omega) (fun k => succ_len o) fun le be H5 t4 hle ele ibe => ?_
      have t5 := t3.trans t4
      have el5 := t4 _ _ el1
      have il5 := ITs.kt (KT.of t4) il1
      have ef5 := t4 _ _ ef1
      have ifs5 := ITs.kt (KT.of t4) ifs1
      refine ⟨_, rfl, ?_⟩
      refine ⟨Nat.zero_le _, fun p5 hp5 => ?_⟩
      have t6 : Same H5 (upd H5 p5 (.lst [])) := same_new hp5
      refine ⟨_, _, dp_lst (t6 _ _ ele) (ITs.kt (KT.of t6) ibe), dp_nil upd_same, shaped_its _, shaped_nil, ?_⟩
      rw [eqv_nil]
      have t7 := t5.trans t6
      have el6 := t6 _ _ el5
      have il6 := ITs.kt (KT.of t6) il5
      have ef6 := t6 _ _ ef5
      have ele6 := t6 _ _ ele
      have ibe6 := ITs.kt (KT.of t6) ibe
      have ifs6 := ITs.kt (KT.of t6) ifs5
      generalize (upd H5 p5 (.lst [])) = H6 at t6 t7 el6 il6 ef6 ele6 ibe6 ifs6 ⊢
      refine ⟨_, rfl, ?_⟩
      have hbl := ibe6.length
      have hEl : (L2.filter (calm ks es L2)).length ≤ L2.length := List.length_filter_le _ _
      generalize hEe : L2.filter (calm ks es L2) = Ee at ibe ibe6 hbl hEl ⊢
      refine ifB (fun e => ?_) (fun e => ?_)
      · have hE0 : Ee = [] := by simpa using e
        exact q1 _ t7 (OInv.stuck wd inv hne (by rw [hEe, hE0]))
      · have hE0 : Ee ≠ [] := fun z => by
          rw [z] at e
          simp at e
        refine ⟨_, rfl, ?_⟩
        refine ⟨_, rfl, ?_⟩
        have hfl := ifs6.length
        have hFl := inv.len
        have hLl := len_L o wd.nd wd.okL
        have hsz : (fs.map V.ref).length + (be.map V.ref).length ≤ sizeLine := by
          rw [List.length_map, List.length_map, sizeLine_is]
          omega
        refine ⟨_, _, _, _, rfl, rfl, ef6, ele6, hsz, fun p8 hp8 => ?_⟩
        have u1 : Same H6 (upd H6 p8 (.lst (fs.map V.ref ++ be.map V.ref))) := same_new hp8
        have u2 : (upd H6 p8 (.lst (fs.map V.ref ++ be.map V.ref))) p8 = some (.lst ((fs ++ be).map V.ref)) := by rw [upd_same, List.map_append]
        have u3 := t7.trans u1
        have np8 : H p8 = none := same_none t7 hp8
        have el7 := u1 _ _ el6
        have il7 := ITs.kt (KT.of u1) il6
        have ele7 := u1 _ _ ele6
        have ibe7 := ITs.kt (KT.of u1) ibe6
        have ifs7 : ITs (upd H6 p8 (.lst (fs.map V.ref ++ be.map V.ref))) (fs ++ be) (F ++ Ee) := paired_append (ITs.kt (KT.of u1) ifs6) (ITs.kt (KT.of u1) ibe6)
        generalize (upd H6 p8 (.lst (fs.map V.ref ++ be.map V.ref))) = H8 at u1 u2 u3 el7 il7 ele7 ibe7 ifs7 ⊢
        refine left_ok el7 il7 ele7 ibe7 (by omega) fun D3 ps3 H9 u4 hD3 eD3 pps => ?_
        have inv2 := OInv.step (S := Ee) wd inv (fun k => by rw [hEe]) (by rw [hEe])
        have less := OInv.less (ks := ks) (es := es) (L2 := L2) (by rw [hEe]; exact hE0)
        rw [hEe] at inv2 less
        refine ⟨by show 2 ≤ sizeLine; decide, fun t9 ht9 => ?_⟩
        have u5 : Same H9 (upd H9 t9 (.tup [.ref p8, .ref D3])) := same_new ht9
        have et9 : (upd H9 t9 (.tup [.ref p8, .ref D3])) t9 = some (.tup [.ref p8, .ref D3]) := upd_same
        have u6 := u3.trans (u4.trans u5)
        have u7 := u4.trans u5
        have ef9 := u7 _ _ u2
        have ifs9 := ITs.kt (KT.of u7) ifs7
        have eD9 := u5 _ _ eD3
        have iD9 := ITs.kt (KT.of u5) pps
        generalize (upd H9 t9 (.tup [.ref p8, .ref D3])) = H10 at u5 et9 u6 u7 ef9 ifs9 eD9 iD9 ⊢
        refine ⟨_, _, rfl, .of et9, rfl, ?_⟩
        refine ⟨_, _, rfl, ?_⟩
        refine ⟨_, _, rfl, ?_⟩
        refine ⟨rfl, ?_⟩
        refine ⟨_, less, ?_⟩
        exact ⟨_, F ++ Ee, D3, p8, ps3, fs ++ be, some (.ref le), rfl, u6, np8, eD9, iD9, ef9, ifs9, inv2, rfl⟩
    · have hl0 : L2 = [] := by simpa using e
      subst hl0
      refine ⟨_, rfl, ?_⟩
      exact q2 lf fs F _ t3 nlf ef1 ifs1 (OInv.done o wd inv)
end
end K4
set_option Elab.async false
set_option linter.all false
set_option maxRecDepth 100000
set_option maxHeartbeats 400000
/-! walk_in -/
namespace K4
open PySem PySem.Spec PyProof.Rows L2 K4R
/-- the exception class NotEnding as the top leaves it -/
structure NotE (K : PySem.W.Frag) (mg : Str → Option Value) (C : Addr) : Prop where
  gC : mg "NotEnding" = some (.ref C)
  q : PySem.W.excIn K C [.type "ValueError", .type "Exception", .type "BaseException", .type "object"] "ValueError.__new__" = true
  kC : PySem.W.keepIn K (.ref C) = true
  sb : PySem.W.subIn K (.ref C) (.type "BaseException") = some true
  ty : PySem.W.typeIn K (.ref C) = some (.type "type")
section
variable {P : Program} {w : World} {K : PySem.W.Frag} {mg : Str → Option Value} {base : Heap} {C : Addr}
def sp_walk_in (C : Addr) : Sp := fun vs H Q E => ∃ (t b c : Addr) (n m : Int) (ks es : List (List Int)) (s : List Int), vs = [.ref t, .ref b, .ref c] ∧ TabAt H t n ks ∧ TabAt H b m es ∧ IT H c s ∧ Ok n m ks es ∧ SOk n m s ∧
  (∀ H', Same H H' → ¬ Term ks es s → E (.ref C) none H') ∧
  ∀ (p d lo x : Addr) (l : List (List Int × V)) (bs : List Addr) (F : List (List Int)) (H' : Hp), Same H H' → H' p = some (.tup [.ref d, .ref lo]) → H' d = some (.dT (dI l)) → ValsAt ks es x H' l → WDone n m ks es s (l.map (·.1)) → H' lo = some (.lst (bs.map V.ref)) → ITs H' bs F → Topo ks es (l.map (·.1)) F → Q (.ref p) H'
theorem ok_walk_in (T : Txt K mg) (NE : NotE K mg C) (G_need_start : FnAt P w K mg base CX0 4 "need_start" ["table", "web", "kinds"] sp_need_start) (G_come_in : FnAt P w K mg base CX0 3 "come_in" ["table", "web", "kinds"] sp_walk) (G_order_in : FnAt P w K mg base CX0 1 "order_in" ["told"] sp_order) :
    FnAt P w K mg base (L2.CX P w) 5 "walk_in" ["table", "web", "kinds"] (sp_walk_in C) := by
  refine fn_body T.d_walk_in sc_walk_in (fun _ _ _ _ _ _ us hl => match us, hl with | [_, _, _], _ => rfl) ?_ (fun f cdv A outer s H vs Q E hr h => ?_)
  · rintro vs H Q E ⟨_, _, _, _, _, _, _, _, rfl, _⟩
    rfl
  · refine ⟨_, (pss_cons (ps_expr (pe_cf G_need_start (hr.mono (by decide)) rfl pass00 (pa_cons (pv 0) (pa_cons (pv 1) (pa_cons (pv 2) pa_nil)))))
    (pss_cons (ps_set (i := 3) sc_walk_in.nd rfl (Or.inl rfl) (pe_cf G_come_in (hr.mono (by decide)) rfl pass00 (pa_cons (pv 0) (pa_cons (pv 1) (pa_cons (pv 2) pa_nil)))))
    (pss_cons (ps_set (i := 4) sc_walk_in.nd rfl (Or.inl rfl) (pe_cf G_order_in (hr.mono (by decide)) rfl pass00 (pa_cons (pv 3) pa_nil)))
    (pss_cons (ps_if (pt_cmpR op_isN (pv 4) pe_non (nomark _)) (pss_one (ps_raise rfl (takes_of rfl rfl rfl rfl) (pmk_own0 PySem.F.excBase_ValueError NE.q NE.gC NE.kC (raises_own NE.sb NE.ty) rfl))) pss_nil)
    (pss_one (ps_ret (pe_tup (pa_cons (pv 3) (pa_cons (pv 4) pa_nil))))))))), ?_⟩
    obtain ⟨t, b, c, n, m, ks, es, s, rfl, ht, hb, hc, o, so, q1, q2⟩ := h
    refine ⟨_, rfl, ?_⟩
    refine ⟨_, rfl, ?_⟩
    refine ⟨_, rfl, ?_⟩
    have k5 := o.kl
    refine ⟨_, _, _, _, _, _, _, _, rfl, ht, o.tab, hb, o.web, hc, so.1, so.2, fun H1 s1 => ?_⟩
    refine ⟨_, rfl, ?_⟩
    refine ⟨_, rfl, ?_⟩
    refine ⟨_, rfl, ?_⟩
    refine ⟨_, _, _, _, _, _, _, _, rfl, ht.kt (KT.of s1), hb.kt (KT.of s1), IT.kt (KT.of s1) hc, o, so, fun d l H2 s2 hd ed vals wd => ?_⟩
    have s3 := s1.trans s2
    refine ⟨_, rfl, ?_⟩
    refine ⟨_, _, _, _, _, _, _, _, rfl, o, wd, ed, vals, fun H3 s4 nt => ?_, fun p bs F H3 s4 hp ep ibs tp => ?_⟩
    · refine ⟨_, rfl, ?_⟩
      refine ⟨rfl, ?_⟩
      refine ⟨_, rfl, ?_⟩
      refine ifP (by decide) ?_
      exact q1 _ (s3.trans s4) nt
    · refine ⟨_, rfl, ?_⟩
      refine ⟨rfl, ?_⟩
      refine ⟨_, rfl, ?_⟩
      refine ifN (by simp) ?_
      refine ⟨_, rfl, ?_⟩
      refine ⟨_, rfl, ?_⟩
      refine ⟨by show 2 ≤ sizeLine; decide, fun p2 hp2 => ?_⟩
      have s5 := same_new (o := .tup [.ref d, .ref p]) hp2
      have s6 := s4.trans s5
      exact q2 p2 d p d l bs F _ (s3.trans s6) upd_same (s6 _ _ ed) (vals.same s6) wd (s5 _ _ ep) (ITs.kt (KT.of s5) ibs) tp
end
end K4
set_option Elab.async false
set_option linter.all false
set_option maxRecDepth 100000
set_option maxHeartbeats 400000
/-! the values of the states -/
namespace K4
open PySem PySem.Spec PyProof.Rows L2 K4R
inductive Val {α : Type} (ks es : List (List Int)) (comb : List α → α) : List Int → α → Prop
  | mk (k : List Int) (vs : List α) (hl : vs.length = (succ ks es k).length) (hv : ∀ (i : Nat) (z : List Int) (v : α), (succ ks es k)[i]? = some z → vs[i]? = some v → Val ks es comb z v) : Val ks es comb k (comb vs)
section
variable {α : Type} {ks es : List (List Int)} {comb : List α → α}
theorem Val.det {k : List Int} {v : α} (h : Val ks es comb k v) : ∀ {v' : α}, Val ks es comb k v' → v = v' := by
  induction h with
  | mk k vs hl hv ih =>
    intro v' h'
    cases h' with
    | mk _ vs' hl' hv' =>
      congr 1
      apply List.ext_getElem?
      intro i
      by_cases hi : i < (succ ks es k).length
      · have e1 : vs[i]? = some (vs[i]'(by omega)) := List.getElem?_eq_getElem (by omega)
        have e2 : vs'[i]? = some (vs'[i]'(by omega)) := List.getElem?_eq_getElem (by omega)
        have e3 : (succ ks es k)[i]? = some ((succ ks es k)[i]) := List.getElem?_eq_getElem hi
        rw [e1, e2]
        exact congrArg some (ih i _ _ e3 e1 (hv' i _ _ e3 e2))
      · rw [List.getElem?_eq_none (by omega), List.getElem?_eq_none (by omega)]
theorem Val.of {k : List Int} {vs : List α} (h : Paired (fun z v => Val ks es comb z v) (succ ks es k) vs) : Val ks es comb k (comb vs) :=
  .mk k vs h.length.symm fun i z v hz hv => by
    obtain ⟨v', h1, h2⟩ := paired_get h hz
    rw [hv] at h1
    cases h1
    exact h2
theorem paired_of {β γ : Type} {F : β → γ → Prop} : ∀ {l : List β}, (∀ z ∈ l, ∃ v, F z v) → ∃ vs, Paired F l vs
  | [], _ => ⟨[], .nil⟩
  | z :: l, h => by
    obtain ⟨v, hv⟩ := h z (List.mem_cons_self ..)
    obtain ⟨vs, hvs⟩ := paired_of (l := l) fun y hy => h y (List.mem_cons_of_mem _ hy)
    exact ⟨v :: vs, .cons hv hvs⟩
end
/-! ### the four ways to put values together -/
def combL (vs : List Int) : Int := vs.foldl max (-1) + 1
def combS : List Int → Int
  | [] => 0
  | v :: r => r.foldl min v + 1
def combC (vs : List Int) : Int := if vs = [] then 1 else vs.sum
theorem foldl_max_mem : ∀ (vs : List Int) (a : Int), vs.foldl max a ∈ a :: vs
  | [], a => by simp
  | v :: r, a => by
    have h := foldl_max_mem r (max a v)
    simp only [List.foldl_cons]
    rcases List.mem_cons.mp h with h | h
    · rw [h]
      rcases Int.le_total a v with q | q
      · rw [Int.max_eq_right q]; simp
      · rw [Int.max_eq_left q]; simp
    · exact List.mem_cons_of_mem _ (List.mem_cons_of_mem _ h)
theorem foldl_max_ge : ∀ (vs : List Int) (a : Int), ∀ y ∈ a :: vs, y ≤ vs.foldl max a
  | [], a, y, hy => by simp at hy; simp [hy]
  | v :: r, a, y, hy => by
    have h := foldl_max_ge r (max a v)
    simp only [List.foldl_cons]
    have h0 := h (max a v) (List.mem_cons_self ..)
    rcases List.mem_cons.mp hy with rfl | hy
    · have := Int.le_max_left y v
      omega
    · rcases List.mem_cons.mp hy with rfl | hy
      · have := Int.le_max_right a y
        omega
      · exact h y (List.mem_cons_of_mem _ hy)
theorem max_is {vs : List Int} {a m : Int} (h1 : m ∈ a :: vs) (h2 : ∀ y ∈ a :: vs, y ≤ m) : m = vs.foldl max a := by
  have q1 := h2 _ (foldl_max_mem vs a)
  have q2 := foldl_max_ge vs a m h1
  omega
theorem foldl_min_mem : ∀ (vs : List Int) (a : Int), vs.foldl min a ∈ a :: vs
  | [], a => by simp
  | v :: r, a => by
    have h := foldl_min_mem r (min a v)
    simp only [List.foldl_cons]
    rcases List.mem_cons.mp h with h | h
    · rw [h]
      rcases Int.le_total a v with q | q
      · rw [Int.min_eq_left q]; simp
      · rw [Int.min_eq_right q]; simp
    · exact List.mem_cons_of_mem _ (List.mem_cons_of_mem _ h)
theorem foldl_min_le : ∀ (vs : List Int) (a : Int), ∀ y ∈ a :: vs, vs.foldl min a ≤ y
  | [], a, y, hy => by simp at hy; simp [hy]
  | v :: r, a, y, hy => by
    have h := foldl_min_le r (min a v)
    simp only [List.foldl_cons]
    have h0 := h (min a v) (List.mem_cons_self ..)
    rcases List.mem_cons.mp hy with rfl | hy
    · have := Int.min_le_left y v
      omega
    · rcases List.mem_cons.mp hy with rfl | hy
      · have := Int.min_le_right a y
        omega
      · exact h y (List.mem_cons_of_mem _ hy)
theorem min_is {vs : List Int} {m : Int} (h1 : m ∈ vs) (h2 : ∀ y ∈ vs, m ≤ y) : m + 1 = combS vs := by
  cases vs with
  | nil => simp at h1
  | cons v r =>
    have q1 := h2 _ (foldl_min_mem r v)
    have q2 := foldl_min_le r v m h1
    show m + 1 = r.foldl min v + 1
    omega
theorem combL_nn (vs : List Int) : 0 ≤ combL vs := by
  have h := foldl_max_ge vs (-1) (-1) (List.mem_cons_self ..)
  unfold combL
  omega
theorem Val.nnL {ks es : List (List Int)} {k : List Int} {v : Int} (h : Val ks es combL k v) : 0 ≤ v := by
  cases h with
  | mk _ vs _ _ => exact combL_nn vs
/-- the law's way to the longest -/
theorem max_law {vs : List Int} {m : Int} (nn : ∀ v ∈ vs, 0 ≤ v) (h1 : m ∈ vs) (h2 : ∀ y ∈ vs, y ≤ m) : m + 1 = combL vs := by
  unfold combL
  rw [← max_is (a := -1) (List.mem_cons_of_mem _ h1) fun y hy => ?_]
  rcases List.mem_cons.mp hy with rfl | hy
  · have := nn m h1
    omega
  · exact h2 y hy
end K4
set_option Elab.async false
set_option linter.all false
set_option maxRecDepth 100000
set_option maxHeartbeats 400000
/-! longest, shortest, run_count -/
namespace K4
open PySem PySem.Spec PyProof.Rows L2 K4R
def FoundI (ks es : List (List Int)) (comb : List Int → Int) (lf : List (List Int × V)) (S : List (List Int)) : Prop := ∀ k ∈ S, ∃ v, valV lf k = some (.int v) ∧ Val ks es comb k v
theorem FoundI.put {ks es : List (List Int)} {comb : List Int → Int} {lf : List (List Int × V)} {S : List (List Int)} {k : List Int} {v : Int} (h : FoundI ks es comb lf S) (hv : Val ks es comb k v) : FoundI ks es comb (putK lf k (.int v)) (S ++ [k]) := fun z hz => by
  rw [valV_put]
  by_cases e : z = k
  · rw [if_pos e, e]
    exact ⟨v, rfl, hv⟩
  · rw [if_neg e]
    rcases List.mem_append.mp hz with hz | hz
    · exact h z hz
    · exact absurd (List.mem_singleton.mp hz) e
theorem putK_length (lf : List (List Int × V)) (k : List Int) (v : V) : (putK lf k v).length ≤ lf.length + 1 := by
  have h := congrArg List.length (keys_putK k v lf)
  rw [List.length_map] at h
  have h2 := putU_len (lf.map (·.1)) k
  rw [List.length_map] at h2
  omega
section
variable {P : Program} {w : World} {K : PySem.W.Frag} {mg : Str → Option Value} {base : Heap} {C : Addr}
/-- [found[there] for there in told[here]] -/
def foundT (K : PySem.W.Frag) : TE := tLc (iList K (tDGet (tVar 3) (tVar 6))) (gName 7) tYes (tDGet (tVar 5) (tVar 7)) [7]
theorem found_ok {ks es : List (List Int)} {comb : List Int → Int} {l lf : List (List Int × V)} {k : List Int} {d df a la : Addr} {as : List Addr} {v0 v1 v2 v4 : Option V} {H : Hp} {Q : VK} (ed : H d = some (.dT (dI l))) (hv : valV l k = some (.ref la)) (ela : H la = some (.lst (as.map V.ref))) (ias : ITs H as (succ ks es k)) (ia : IT H a k)
    (edf : H df = some (.dT (dI lf))) (hf : FoundI ks es comb lf (succ ks es k)) (hs : (succ ks es k).length ≤ 60)
    (q : ∀ D vs H', Same H H' → H D = none → H' D = some (.lst (vs.map V.int)) → Paired (fun z v => Val ks es comb z v) (succ ks es k) vs → Q (.ref D) H') : foundT K [v0, v1, v2, some (.ref d), v4, some (.ref df), some (.ref a), none] H Q := by
  obtain ⟨vs, hvs⟩ := paired_of (F := fun z v => valV lf z = some (.int v) ∧ Val ks es comb z v) hf
  refine ⟨_, rfl, ?_⟩
  refine ⟨_, rfl, ?_⟩
  have gD : DGet H d (.ref a) (some (.ref la)) := by
    rw [← hv]
    exact dget ed ia
  refine ⟨_, _, rfl, gD, ?_⟩
  refine ⟨_, rfl, ⟨_, .of ela⟩, ?_⟩
  intro D hD
  have hl1 := hvs.length
  have hl2 := ias.length
  refine lc_it (walk_list (xs := as.map V.ref)) (PvLc H D (RN fun j => vs.take j)) (PvLc.zero RN.st hD rfl) (fun j H4 _ p => ?_) (fun j x H4 H5 hj p y => ?_) (fun H4 p => ?_)
  · obtain ⟨acc, eD, hl, s1, hr⟩ := p
    exact .of (s1 _ _ ela)
  · obtain ⟨acc, eD, hal, s1, hr⟩ := p
    obtain ⟨rfl, hx⟩ := y
    obtain ⟨a1, z, rfl, ea1, ez, iz⟩ := its_get ias hx
    obtain ⟨v, ev, hz, _⟩ := paired_get hvs ez
    refine ⟨rfl, ?_⟩
    refine ⟨_, rfl, ?_⟩
    refine ⟨_, rfl, ?_⟩
    have gF : DGet H5 df (.ref a1) (some (.int v)) := by
      rw [← hz]
      exact dget (s1 _ _ edf) (IT.kt (KT.of s1) iz)
    refine ⟨_, _, rfl, gF, ?_⟩
    have hj' : j < 10000000 := by
      rw [List.length_map] at hj
      omega
    have hr' : acc = (vs.take j).map V.int := hr
    refine PvLc.put RN.st hD eD hal s1 (Same.refl _) ?_ hj'
    show acc ++ [.int v] = (vs.take (j + 1)).map V.int
    rw [hr', take_succ_get ev, List.map_append]
    rfl
  · obtain ⟨acc, eD, hal, s1, hr⟩ := p
    have hr' : acc = (vs.take (as.map V.ref).length).map V.int := hr
    rw [List.take_of_length_le (by rw [List.length_map]; omega)] at hr'
    subst hr'
    exact q D vs _ s1 hD eD (Paired.mono (fun _ _ h => h.2) hvs)
def sp_int (C : Addr) (comb : List Int → Int) : Sp := fun vs H Q E => ∃ (t b c : Addr) (n m : Int) (ks es : List (List Int)) (s : List Int), vs = [.ref t, .ref b, .ref c] ∧ TabAt H t n ks ∧ TabAt H b m es ∧ IT H c s ∧ Ok n m ks es ∧ SOk n m s ∧
  (∀ H', Same H H' → ¬ Term ks es s → E (.ref C) none H') ∧ ∀ (v : Int) (H' : Hp), Same H H' → Term ks es s → Val ks es comb s v → Q (.int v) H'
theorem ok_longest (T : Txt K mg) (G_walk_in : FnAt P w K mg base (L2.CX P w) 5 "walk_in" ["table", "web", "kinds"] (sp_walk_in C)) : FnAt P w K mg base (L2.CX P w) 6 "longest" ["table", "web", "kinds"] (sp_int C combL) := by
  refine fn_body T.d_longest sc_longest (fun _ _ _ _ _ _ us hl => match us, hl with | [_, _, _], _ => rfl) ?_ (fun f cdv A outer s H vs Q E hr h => ?_)
  · rintro vs H Q E ⟨_, _, _, _, _, _, _, _, rfl, _⟩
    rfl
  · refine ⟨_, (pss_cons (ps_asg (pe_cf G_walk_in (hr.mono (by decide)) rfl (passes_call (takes_of rfl rfl rfl rfl) (fun _ _ _ _ h => h)) (pa_cons (pv 0) (pa_cons (pv 1) (pa_cons (pv 2) pa_nil)))) (pg_tup rfl (pgs_cons (pg_name (i := 3) sc_longest.nd rfl (Or.inl rfl)) (pgs_cons (pg_name (i := 4) sc_longest.nd rfl (Or.inl rfl)) pgs_nil))))
    (PSs.nox (pss_cons (ps_set (i := 5) sc_longest.nd rfl (Or.inr rfl) pe_dnewT)
    (pss_cons (ps_for PassesOwn.never rfl (pi_list (pv 4)) (pg_name (i := 6) sc_longest.nd rfl (Or.inl rfl))
    (pss_one (ps_dput (hu_of hr) (pv 5) (pv 6) (pe_op op_add (pe_callB (cr_max rfl) rfl T.b_max (by decide +kernel) (pa_cons (pe_op op_cat (pe_lst (pa_cons (pe_un un_neg pe_int) pa_nil)) (pe_lc (own := [("there", 7)]) rfl sc_longest.nd (pi_list (pe_dget (hu_of hr) (pv 3) (pv 6) (fun _ _ => rfl))) (blkOk_by (N := N_longest) (sc := defScope s_longest) (by decide +kernel)) (fun _ _ _ _ _ => (pg_name (i := 7) sc_longest.nd rfl (Or.inl rfl))) (fun _ _ _ _ _ => pts_nil) (fun _ _ _ _ _ => (pe_dget (hu_of hr) (pv 5) (pv 7) (fun _ _ => rfl))))) pa_nil)) pe_int) rfl)))
    (pss_one (ps_ret (pe_dget (hu_of hr) (pv 5) (pv 2) (fun _ _ => rfl)))))))), ?_⟩
    obtain ⟨t, b, c, n, m, ks, es, s, rfl, ht, hb, hc, o, so, q1, q2⟩ := h
    refine ⟨_, rfl, ?_⟩
    refine ⟨_, rfl, ?_⟩
    refine ⟨_, rfl, ?_⟩
    refine ⟨_, _, _, _, _, _, _, _, rfl, ht, hb, hc, o, so, q1, fun p d lo x l bs F H1 s1 ep ed vals wd elo ibs tp => ?_⟩
    refine ⟨_, _, rfl, .of ep, rfl, ?_⟩
    refine ⟨_, _, rfl, ?_⟩
    refine ⟨_, _, rfl, ?_⟩
    refine ⟨rfl, ?_⟩
    intro df hdf
    have s2 : Same H1 (upd H1 df (.dT [])) := same_new hdf
    refine ⟨_, rfl, ?_⟩
    refine ⟨_, rfl, ⟨_, .of (s2 _ _ elo)⟩, ?_⟩
    have tlen := tp.len
    have blen := ibs.length
    refine for_it (walk_list (xs := bs.map V.ref)) (fun i σ H2 => Same H1 H2 ∧ ∃ lf o6, H2 df = some (.dT (dI lf)) ∧ lf.length ≤ i ∧ FoundI ks es combL lf (F.take i) ∧ σ = [some (.ref t), some (.ref b), some (.ref c), some (.ref d), some (.ref lo), some (.ref df), o6, none])
      ⟨s2, [], none, upd_same, Nat.le_refl _, fun k hk => by simp at hk, rfl⟩ (fun i σ H2 _ pp => .of (pp.1 _ _ elo)) (fun i x0 σ H2 H3 hi pp yy => ?_) (fun σ H2 pp => ?_)
    · obtain ⟨s3, lf, o6, edf, hlf, fd, rfl⟩ := pp
      obtain ⟨rfl, hx⟩ := yy
      obtain ⟨a, k, rfl, ea, ek, ia⟩ := its_get ibs hx
      have hkL := tp.sub k (List.mem_of_getElem? ek)
      obtain ⟨u, hu, hum⟩ := valV_of_mem hkL
      obtain ⟨la, as, ev, _, ela, ias⟩ := vals _ hum
      dsimp only at ev ias
      subst ev
      have fk : FoundI ks es combL lf (succ ks es k) := fun z hz => fd z (tp.bef i k ek z hz)
      have hi256 : i < 256 := by
        rw [List.length_map] at hi
        omega
      have fin : ∀ (v : Int) (H4 : Hp), Same H3 H4 → Val ks es combL k v → ∃ a_1 H5, V.ref df = V.ref a_1 ∧ DPut H4 a_1 (.ref a) (.int v) H5 ∧ (Same H1 H5 ∧ ∃ lf o6, H5 df = some (.dT (dI lf)) ∧ lf.length ≤ i + 1 ∧ FoundI ks es combL lf (F.take (i + 1)) ∧ [some (.ref t), some (.ref b), some (.ref c), some (.ref d), some (.ref lo), some (.ref df), some (V.ref a), none] = [some (.ref t), some (.ref b), some (.ref c), some (.ref d), some (.ref lo), some (.ref df), o6, none]) := fun v H4 s4 hv => by
        have e4 := s4 _ _ edf
        refine ⟨df, _, rfl, dput e4 (IT.kt (KT.of (s3.trans s4)) ia) (by omega), same_to (s3.trans s4) hdf, putK lf k (.int v), some (.ref a), upd_same, ?_, ?_, rfl⟩
        · have := putK_length lf k (.int v)
          omega
        · rw [take_succ_get ek]
          exact fd.put hv
      refine ⟨_, rfl, ?_⟩
      refine ⟨by show 1 ≤ sizeLine; decide, fun p1 hp1 => ?_⟩
      have s4 : Same H3 (upd H3 p1 (.lst [.int (-1)])) := same_new hp1
      have e1 : (upd H3 p1 (.lst [.int (-1)])) p1 = some (.lst [.int (-1)]) := upd_same
      generalize (upd H3 p1 (.lst [.int (-1)])) = H4 at s4 e1 ⊢
      have s5 := s3.trans s4
      refine found_ok (s5 _ _ ed) hu (s5 _ _ ela) (ITs.kt (KT.of s5) ias) (IT.kt (KT.of s5) ia) (s4 _ _ edf) fk (succ_len o) fun D vs H5 s6 hD eD hvs => ?_
      have hvl := hvs.length
      have hsl := succ_len (s := k) o
      refine ⟨_, _, _, _, rfl, rfl, s6 _ _ e1, eD, by rw [List.length_map, sizeLine_is]; show 1 + vs.length ≤ _; omega, fun p2 hp2 => ?_⟩
      have s7 : Same H5 (upd H5 p2 (.lst ([.int (-1)] ++ vs.map V.int))) := same_new hp2
      refine ⟨p2, -1 :: vs, rfl, .of upd_same, by simp, fun mx h1 h2 => ?_⟩
      refine ⟨_, _, rfl, rfl, ?_⟩
      refine ⟨_, rfl, ?_⟩
      refine ⟨_, rfl, ?_⟩
      have em : mx + 1 = combL vs := by
        unfold combL
        rw [max_is h1 h2]
      have hv : Val ks es combL k (mx + 1) := by
        rw [em]
        exact Val.of hvs
      exact fin _ _ (s4.trans (s6.trans s7)) hv
    · obtain ⟨s3, lf, o6, edf, hlf, fd, rfl⟩ := pp
      have hS : s ∈ F.take (bs.map V.ref).length := by
        rw [List.take_of_length_le (by rw [List.length_map]; omega)]
        exact tp.all s wd.st
      obtain ⟨v, hv, vv⟩ := fd s hS
      refine ⟨_, rfl, ?_⟩
      refine ⟨_, rfl, ?_⟩
      have gF : DGet H2 df (.ref c) (some (.int v)) := by
        rw [← hv]
        exact dget edf (IT.kt (KT.of (s1.trans s3)) hc)
      refine ⟨_, _, rfl, gF, ?_⟩
      exact q2 v _ (s1.trans s3) (topo_term wd tp) vv
theorem ok_shortest (T : Txt K mg) (G_walk_in : FnAt P w K mg base (L2.CX P w) 5 "walk_in" ["table", "web", "kinds"] (sp_walk_in C)) : FnAt P w K mg base (L2.CX P w) 6 "shortest" ["table", "web", "kinds"] (sp_int C combS) := by
  refine fn_body T.d_shortest sc_shortest (fun _ _ _ _ _ _ us hl => match us, hl with | [_, _, _], _ => rfl) ?_ (fun f cdv A outer s H vs Q E hr h => ?_)
  · rintro vs H Q E ⟨_, _, _, _, _, _, _, _, rfl, _⟩
    rfl
  · refine ⟨_, (pss_cons (ps_asg (pe_cf G_walk_in (hr.mono (by decide)) rfl (passes_call (takes_of rfl rfl rfl rfl) (fun _ _ _ _ h => h)) (pa_cons (pv 0) (pa_cons (pv 1) (pa_cons (pv 2) pa_nil)))) (pg_tup rfl (pgs_cons (pg_name (i := 3) sc_shortest.nd rfl (Or.inl rfl)) (pgs_cons (pg_name (i := 4) sc_shortest.nd rfl (Or.inl rfl)) pgs_nil))))
    (PSs.nox (pss_cons (ps_set (i := 5) sc_shortest.nd rfl (Or.inr rfl) pe_dnewT)
    (pss_cons (ps_for PassesOwn.never rfl (pi_list (pv 4)) (pg_name (i := 6) sc_shortest.nd rfl (Or.inl rfl))
    (pss_one (ps_dput (hu_of hr) (pv 5) (pv 6) (pe_ifExp (pt_cmpR (op_neD hr.units) (pe_dget (hu_of hr) (pv 3) (pv 6) (fun _ _ => rfl)) (pe_lst pa_nil) (nomark _)) (pe_op op_add (pe_callB (cr_min rfl) rfl T.b_min (by decide +kernel) (pa_cons (pe_lc (own := [("there", 7)]) rfl sc_shortest.nd (pi_list (pe_dget (hu_of hr) (pv 3) (pv 6) (fun _ _ => rfl))) (blkOk_by (N := N_shortest) (sc := defScope s_shortest) (by decide +kernel)) (fun _ _ _ _ _ => (pg_name (i := 7) sc_shortest.nd rfl (Or.inl rfl))) (fun _ _ _ _ _ => pts_nil) (fun _ _ _ _ _ => (pe_dget (hu_of hr) (pv 5) (pv 7) (fun _ _ => rfl)))) pa_nil)) pe_int) pe_int) rfl)))
    (pss_one (ps_ret (pe_dget (hu_of hr) (pv 5) (pv 2) (fun _ _ => rfl)))))))), ?_⟩
    obtain ⟨t, b, c, n, m, ks, es, s, rfl, ht, hb, hc, o, so, q1, q2⟩ := h
    refine ⟨_, rfl, ?_⟩
    refine ⟨_, rfl, ?_⟩
    refine ⟨_, rfl, ?_⟩
    refine ⟨_, _, _, _, _, _, _, _, rfl, ht, hb, hc, o, so, q1, fun p d lo x l bs F H1 s1 ep ed vals wd elo ibs tp => ?_⟩
    refine ⟨_, _, rfl, .of ep, rfl, ?_⟩
    refine ⟨_, _, rfl, ?_⟩
    refine ⟨_, _, rfl, ?_⟩
    refine ⟨rfl, ?_⟩
    intro df hdf
    have s2 : Same H1 (upd H1 df (.dT [])) := same_new hdf
    refine ⟨_, rfl, ?_⟩
    refine ⟨_, rfl, ⟨_, .of (s2 _ _ elo)⟩, ?_⟩
    have tlen := tp.len
    have blen := ibs.length
    refine for_it (walk_list (xs := bs.map V.ref)) (fun i σ H2 => Same H1 H2 ∧ ∃ lf o6, H2 df = some (.dT (dI lf)) ∧ lf.length ≤ i ∧ FoundI ks es combS lf (F.take i) ∧ σ = [some (.ref t), some (.ref b), some (.ref c), some (.ref d), some (.ref lo), some (.ref df), o6, none])
      ⟨s2, [], none, upd_same, Nat.le_refl _, fun k hk => by simp at hk, rfl⟩ (fun i σ H2 _ pp => .of (pp.1 _ _ elo)) (fun i x0 σ H2 H3 hi pp yy => ?_) (fun σ H2 pp => ?_)
    · obtain ⟨s3, lf, o6, edf, hlf, fd, rfl⟩ := pp
      obtain ⟨rfl, hx⟩ := yy
      obtain ⟨a, k, rfl, ea, ek, ia⟩ := its_get ibs hx
      have hkL := tp.sub k (List.mem_of_getElem? ek)
      obtain ⟨u, hu, hum⟩ := valV_of_mem hkL
      obtain ⟨la, as, ev, _, ela, ias⟩ := vals _ hum
      dsimp only at ev ias
      subst ev
      have fk : FoundI ks es combS lf (succ ks es k) := fun z hz => fd z (tp.bef i k ek z hz)
      have hi256 : i < 256 := by
        rw [List.length_map] at hi
        omega
      have fin : ∀ (v : Int) (H4 : Hp), Same H3 H4 → Val ks es combS k v → ∃ a_1 H5, V.ref df = V.ref a_1 ∧ DPut H4 a_1 (.ref a) (.int v) H5 ∧ (Same H1 H5 ∧ ∃ lf o6, H5 df = some (.dT (dI lf)) ∧ lf.length ≤ i + 1 ∧ FoundI ks es combS lf (F.take (i + 1)) ∧ [some (.ref t), some (.ref b), some (.ref c), some (.ref d), some (.ref lo), some (.ref df), some (V.ref a), none] = [some (.ref t), some (.ref b), some (.ref c), some (.ref d), some (.ref lo), some (.ref df), o6, none]) := fun v H4 s4 hv => by
        have e4 := s4 _ _ edf
        refine ⟨df, _, rfl, dput e4 (IT.kt (KT.of (s3.trans s4)) ia) (by omega), same_to (s3.trans s4) hdf, putK lf k (.int v), some (.ref a), upd_same, ?_, ?_, rfl⟩
        · have := putK_length lf k (.int v)
          omega
        · rw [take_succ_get ek]
          exact fd.put hv
      refine ⟨_, rfl, ?_⟩
      refine ⟨_, rfl, ?_⟩
      have gD : DGet H3 d (.ref a) (some (.ref la)) := by
        rw [← hu]
        exact dget (s3 _ _ ed) (IT.kt (KT.of s3) ia)
      refine ⟨_, _, rfl, gD, ?_⟩
      refine ⟨Nat.zero_le _, fun p1 hp1 => ?_⟩
      have s4 : Same H3 (upd H3 p1 (.lst [])) := same_new hp1
      have e1 : (upd H3 p1 (.lst [])) p1 = some (.lst []) := upd_same
      generalize (upd H3 p1 (.lst [])) = H4 at s4 e1 ⊢
      have s5 := s3.trans s4
      refine ⟨_, _, dp_lst (s5 _ _ ela) (ITs.kt (KT.of s5) ias), dp_nil e1, shaped_its _, shaped_nil, ?_⟩
      rw [eqv_nil]
      refine ⟨_, rfl, ?_⟩
      refine ifB (fun e => ?_) (fun e => ?_)
      · have hne : succ ks es k ≠ [] := fun z => by
          rw [z] at e
          simp at e
        dsimp only [tOp, tCB, tCons]
        refine found_ok (s5 _ _ ed) hu (s5 _ _ ela) (ITs.kt (KT.of s5) ias) (IT.kt (KT.of s5) ia) (s4 _ _ edf) fk (succ_len o) fun D vs H5 s6 hD eD hvs => ?_
        have hvl := hvs.length
        have hvne : vs ≠ [] := fun z => by
          rw [z] at hvl
          exact hne (List.length_eq_zero_iff.mp hvl)
        refine ⟨D, vs, rfl, .of eD, List.length_pos_iff.mpr hvne, fun mx h1 h2 => ?_⟩
        refine ⟨_, _, rfl, rfl, ?_⟩
        refine ⟨_, rfl, ?_⟩
        refine ⟨_, rfl, ?_⟩
        have hv : Val ks es combS k (mx + 1) := by
          rw [min_is h1 h2]
          exact Val.of hvs
        exact fin _ _ (s4.trans s6) hv
      · have h0 : succ ks es k = [] := by simpa using e
        refine ⟨_, rfl, ?_⟩
        refine ⟨_, rfl, ?_⟩
        have hv : Val ks es combS k 0 := Val.of (vs := []) (comb := combS) (by rw [h0]; exact .nil)
        exact fin _ _ s4 hv
    · obtain ⟨s3, lf, o6, edf, hlf, fd, rfl⟩ := pp
      have hS : s ∈ F.take (bs.map V.ref).length := by
        rw [List.take_of_length_le (by rw [List.length_map]; omega)]
        exact tp.all s wd.st
      obtain ⟨v, hv, vv⟩ := fd s hS
      refine ⟨_, rfl, ?_⟩
      refine ⟨_, rfl, ?_⟩
      have gF : DGet H2 df (.ref c) (some (.int v)) := by
        rw [← hv]
        exact dget edf (IT.kt (KT.of (s1.trans s3)) hc)
      refine ⟨_, _, rfl, gF, ?_⟩
      exact q2 v _ (s1.trans s3) (topo_term wd tp) vv
theorem ok_run_count (T : Txt K mg) (G_walk_in : FnAt P w K mg base (L2.CX P w) 5 "walk_in" ["table", "web", "kinds"] (sp_walk_in C)) : FnAt P w K mg base (L2.CX P w) 6 "run_count" ["table", "web", "kinds"] (sp_int C combC) := by
  refine fn_body T.d_run_count sc_run_count (fun _ _ _ _ _ _ us hl => match us, hl with | [_, _, _], _ => rfl) ?_ (fun f cdv A outer s H vs Q E hr h => ?_)
  · rintro vs H Q E ⟨_, _, _, _, _, _, _, _, rfl, _⟩
    rfl
  · refine ⟨_, (pss_cons (ps_asg (pe_cf G_walk_in (hr.mono (by decide)) rfl (passes_call (takes_of rfl rfl rfl rfl) (fun _ _ _ _ h => h)) (pa_cons (pv 0) (pa_cons (pv 1) (pa_cons (pv 2) pa_nil)))) (pg_tup rfl (pgs_cons (pg_name (i := 3) sc_run_count.nd rfl (Or.inl rfl)) (pgs_cons (pg_name (i := 4) sc_run_count.nd rfl (Or.inl rfl)) pgs_nil))))
    (PSs.nox (pss_cons (ps_set (i := 5) sc_run_count.nd rfl (Or.inr rfl) pe_dnewT)
    (pss_cons (ps_for PassesOwn.never rfl (pi_list (pv 4)) (pg_name (i := 6) sc_run_count.nd rfl (Or.inl rfl))
    (pss_one (ps_dput (hu_of hr) (pv 5) (pv 6) (pe_ifExp (pt_cmpR (op_neD hr.units) (pe_dget (hu_of hr) (pv 3) (pv 6) (fun _ _ => rfl)) (pe_lst pa_nil) (nomark _)) (pe_callB (cr_sum rfl) rfl T.b_sum (by decide +kernel) (pa_cons (pe_lc (own := [("there", 7)]) rfl sc_run_count.nd (pi_list (pe_dget (hu_of hr) (pv 3) (pv 6) (fun _ _ => rfl))) (blkOk_by (N := N_run_count) (sc := defScope s_run_count) (by decide +kernel)) (fun _ _ _ _ _ => (pg_name (i := 7) sc_run_count.nd rfl (Or.inl rfl))) (fun _ _ _ _ _ => pts_nil) (fun _ _ _ _ _ => (pe_dget (hu_of hr) (pv 5) (pv 7) (fun _ _ => rfl)))) pa_nil)) pe_int) rfl)))
    (pss_one (ps_ret (pe_dget (hu_of hr) (pv 5) (pv 2) (fun _ _ => rfl)))))))), ?_⟩
    obtain ⟨t, b, c, n, m, ks, es, s, rfl, ht, hb, hc, o, so, q1, q2⟩ := h
    refine ⟨_, rfl, ?_⟩
    refine ⟨_, rfl, ?_⟩
    refine ⟨_, rfl, ?_⟩
    refine ⟨_, _, _, _, _, _, _, _, rfl, ht, hb, hc, o, so, q1, fun p d lo x l bs F H1 s1 ep ed vals wd elo ibs tp => ?_⟩
    refine ⟨_, _, rfl, .of ep, rfl, ?_⟩
    refine ⟨_, _, rfl, ?_⟩
    refine ⟨_, _, rfl, ?_⟩
    refine ⟨rfl, ?_⟩
    intro df hdf
    have s2 : Same H1 (upd H1 df (.dT [])) := same_new hdf
    refine ⟨_, rfl, ?_⟩
    refine ⟨_, rfl, ⟨_, .of (s2 _ _ elo)⟩, ?_⟩
    have tlen := tp.len
    have blen := ibs.length
    refine for_it (walk_list (xs := bs.map V.ref)) (fun i σ H2 => Same H1 H2 ∧ ∃ lf o6, H2 df = some (.dT (dI lf)) ∧ lf.length ≤ i ∧ FoundI ks es combC lf (F.take i) ∧ σ = [some (.ref t), some (.ref b), some (.ref c), some (.ref d), some (.ref lo), some (.ref df), o6, none])
      ⟨s2, [], none, upd_same, Nat.le_refl _, fun k hk => by simp at hk, rfl⟩ (fun i σ H2 _ pp => .of (pp.1 _ _ elo)) (fun i x0 σ H2 H3 hi pp yy => ?_) (fun σ H2 pp => ?_)
    · obtain ⟨s3, lf, o6, edf, hlf, fd, rfl⟩ := pp
      obtain ⟨rfl, hx⟩ := yy
      obtain ⟨a, k, rfl, ea, ek, ia⟩ := its_get ibs hx
      have hkL := tp.sub k (List.mem_of_getElem? ek)
      obtain ⟨u, hu, hum⟩ := valV_of_mem hkL
      obtain ⟨la, as, ev, _, ela, ias⟩ := vals _ hum
      dsimp only at ev ias
      subst ev
      have fk : FoundI ks es combC lf (succ ks es k) := fun z hz => fd z (tp.bef i k ek z hz)
      have hi256 : i < 256 := by
        rw [List.length_map] at hi
        omega
      have fin : ∀ (v : Int) (H4 : Hp), Same H3 H4 → Val ks es combC k v → ∃ a_1 H5, V.ref df = V.ref a_1 ∧ DPut H4 a_1 (.ref a) (.int v) H5 ∧ (Same H1 H5 ∧ ∃ lf o6, H5 df = some (.dT (dI lf)) ∧ lf.length ≤ i + 1 ∧ FoundI ks es combC lf (F.take (i + 1)) ∧ [some (.ref t), some (.ref b), some (.ref c), some (.ref d), some (.ref lo), some (.ref df), some (V.ref a), none] = [some (.ref t), some (.ref b), some (.ref c), some (.ref d), some (.ref lo), some (.ref df), o6, none]) := fun v H4 s4 hv => by
        have e4 := s4 _ _ edf
        refine ⟨df, _, rfl, dput e4 (IT.kt (KT.of (s3.trans s4)) ia) (by omega), same_to (s3.trans s4) hdf, putK lf k (.int v), some (.ref a), upd_same, ?_, ?_, rfl⟩
        · have := putK_length lf k (.int v)
          omega
        · rw [take_succ_get ek]
          exact fd.put hv
      refine ⟨_, rfl, ?_⟩
      refine ⟨_, rfl, ?_⟩
      have gD : DGet H3 d (.ref a) (some (.ref la)) := by
        rw [← hu]
        exact dget (s3 _ _ ed) (IT.kt (KT.of s3) ia)
      refine ⟨_, _, rfl, gD, ?_⟩
      refine ⟨Nat.zero_le _, fun p1 hp1 => ?_⟩
      have s4 : Same H3 (upd H3 p1 (.lst [])) := same_new hp1
      have e1 : (upd H3 p1 (.lst [])) p1 = some (.lst []) := upd_same
      generalize (upd H3 p1 (.lst [])) = H4 at s4 e1 ⊢
      have s5 := s3.trans s4
      refine ⟨_, _, dp_lst (s5 _ _ ela) (ITs.kt (KT.of s5) ias), dp_nil e1, shaped_its _, shaped_nil, ?_⟩
      rw [eqv_nil]
      refine ⟨_, rfl, ?_⟩
      refine ifB (fun e => ?_) (fun e => ?_)
      · have hne : succ ks es k ≠ [] := fun z => by
          rw [z] at e
          simp at e
        dsimp only [tOp, tCB, tCons]
        refine found_ok (s5 _ _ ed) hu (s5 _ _ ela) (ITs.kt (KT.of s5) ias) (IT.kt (KT.of s5) ia) (s4 _ _ edf) fk (succ_len o) fun D vs H5 s6 hD eD hvs => ?_
        have hvl := hvs.length
        have hvne : vs ≠ [] := fun z => by
          rw [z] at hvl
          exact hne (List.length_eq_zero_iff.mp hvl)
        refine ⟨D, vs, rfl, .of eD, ?_⟩
        refine ⟨_, rfl, ?_⟩
        refine ⟨_, rfl, ?_⟩
        have hv : Val ks es combC k vs.sum := by
          have h := Val.of (comb := combC) hvs
          unfold combC at h
          rw [if_neg hvne] at h
          exact h
        exact fin _ _ (s4.trans s6) hv
      · have h0 : succ ks es k = [] := by simpa using e
        refine ⟨_, rfl, ?_⟩
        refine ⟨_, rfl, ?_⟩
        have hv : Val ks es combC k 1 := Val.of (vs := []) (comb := combC) (by rw [h0]; exact .nil)
        exact fin _ _ s4 hv
    · obtain ⟨s3, lf, o6, edf, hlf, fd, rfl⟩ := pp
      have hS : s ∈ F.take (bs.map V.ref).length := by
        rw [List.take_of_length_le (by rw [List.length_map]; omega)]
        exact tp.all s wd.st
      obtain ⟨v, hv, vv⟩ := fd s hS
      refine ⟨_, rfl, ?_⟩
      refine ⟨_, rfl, ?_⟩
      have gF : DGet H2 df (.ref c) (some (.int v)) := by
        rw [← hv]
        exact dget edf (IT.kt (KT.of (s1.trans s3)) hc)
      refine ⟨_, _, rfl, gF, ?_⟩
      exact q2 v _ (s1.trans s3) (topo_term wd tp) vv
end
end K4
set_option Elab.async false
set_option linter.all false
set_option maxRecDepth 100000
set_option maxHeartbeats 400000
set_option exponentiation.threshold 5000
/-! means as ratios: sums, bounds -/
namespace K4
open PySem PySem.Spec PyProof.Rows L2 K4R
theorem mk_add (a b D : Nat) (hD : 0 < D) : mkRat (a : Int) D + mkRat (b : Int) D = mkRat ((a + b : Nat) : Int) D := by
  rw [Rat.mkRat_add_mkRat _ _ (by omega) (by omega)]
  have e : ((a : Int) * (D : Int) + (b : Int) * (D : Int)) = ((a + b : Nat) : Int) * ((D : Nat) : Int) := by
    rw [← Int.add_mul]
    rfl
  rw [e, Rat.mkRat_mul_right (by omega)]
theorem mk_mul (a D n : Nat) : mkRat (a : Int) D * mkRat 1 n = mkRat (a : Int) (D * n) := by
  rw [Rat.mkRat_mul_mkRat, Int.mul_one]
theorem mk_scale (a D n : Nat) (hn : 0 < n) : mkRat (a : Int) D = mkRat ((a * n : Nat) : Int) (D * n) := by
  have h := Rat.mkRat_mul_right (n := (a : Int)) (d := D) (a := n) (by omega)
  rw [← h]
  rfl
theorem mk_one (D : Nat) (hD : 0 < D) : (1 : Rat) = mkRat (D : Int) D := by
  have h := mk_scale 1 1 D hD
  rw [Nat.one_mul] at h
  rw [← h]
  rfl
theorem mk_zero (D : Nat) : (0 : Rat) = mkRat ((0 : Nat) : Int) D := by
  have h := Rat.zero_mkRat D
  exact h.symm
theorem sm_mk {z D : Nat} (hD : 0 < D) (hz : z < 2 ^ 4000) (hD2 : D < 2 ^ 4000) : Sm (mkRat (z : Int) D) := by
  obtain ⟨h1, h2⟩ := mkRat_parts (z : Int) D (by omega)
  constructor
  · rw [h1]
    have e : ((z : Int) / (((z : Int).gcd D : Nat) : Int)).natAbs = z / ((z : Int).gcd D) := by
      have : ((z : Int) / (((z : Int).gcd D : Nat) : Int)) = ((z / ((z : Int).gcd D) : Nat) : Int) := rfl
      rw [this, Int.natAbs_natCast]
    rw [e]
    exact Nat.lt_of_le_of_lt (Nat.div_le_self _ _) hz
  · have e : (mkRat (z : Int) D).den = D / ((z : Int).gcd D) := by
      have : (((mkRat (z : Int) D).den : Nat) : Int) = ((D / ((z : Int).gcd D) : Nat) : Int) := h2
      exact Int.ofNat.inj this
    rw [e]
    exact Nat.lt_of_le_of_lt (Nat.div_le_self _ _) hD2
/-- of the denominator D, at most i -/
def BM (D i : Nat) (r : Rat) : Prop := ∃ z : Nat, r = mkRat (z : Int) D ∧ z ≤ i * D
theorem BM.scale {D i n : Nat} {r : Rat} (hn : 0 < n) (h : BM D i r) : BM (D * n) (i + 1) r := by
  obtain ⟨z, e, hz⟩ := h
  refine ⟨z * n, by rw [e, mk_scale z D n hn], ?_⟩
  have h1 : z * n ≤ i * D * n := Nat.mul_le_mul_right n hz
  have h2 : (i + 1) * (D * n) = i * D * n + D * n := by rw [Nat.add_mul, Nat.one_mul, Nat.mul_assoc]
  omega
def accM (r a : Rat) (vs : List Rat) : Rat := vs.foldl (fun a v => a + v * r) a
def combM (vs : List Rat) : Rat := if vs = [] then 0 else accM (mkRat 1 vs.length) 0 vs + 1
theorem accM_one (r : Rat) : ∀ (vs : List Rat) (a : Rat), accM r (a + 1) vs = accM r a vs + 1
  | [], a => rfl
  | v :: vs, a => by
    have h := accM_one r vs (a + v * r)
    unfold accM at h ⊢
    rw [List.foldl_cons, List.foldl_cons, ← h]
    congr 1
    rw [Rat.add_assoc, Rat.add_comm 1, ← Rat.add_assoc]
theorem accM_law (r : Rat) (vs : List Rat) : accM r 1 vs = accM r 0 vs + 1 := by
  have h := accM_one r vs 0
  rw [Rat.zero_add] at h
  exact h
theorem accM_mk {D i n : Nat} (hD : 0 < D) (hn : 0 < n) : ∀ (vs : List Rat) (A : Nat), (∀ v ∈ vs, BM D i v) → ∃ Z : Nat, accM (mkRat 1 n) (mkRat (A : Int) (D * n)) vs = mkRat (Z : Int) (D * n) ∧ Z ≤ A + vs.length * (i * D)
  | [], A, _ => ⟨A, rfl, by simp⟩
  | v :: vs, A, h => by
    obtain ⟨z, e, hz⟩ := h v (List.mem_cons_self ..)
    have hp : 0 < D * n := Nat.mul_pos hD hn
    obtain ⟨Z, e2, hZ⟩ := accM_mk hD hn vs (A + z) fun u hu => h u (List.mem_cons_of_mem _ hu)
    refine ⟨Z, ?_, ?_⟩
    · unfold accM at e2 ⊢
      rw [List.foldl_cons, e, mk_mul, mk_add _ _ _ hp]
      exact e2
    · rw [List.length_cons, Nat.add_mul, Nat.one_mul]
      omega
theorem accM_snoc {r a v : Rat} {vs : List Rat} {j : Nat} (h : vs[j]? = some v) : accM r a (vs.take (j + 1)) = accM r a (vs.take j) + v * r := foldl_take _ _ h
/-- how great things get -/
theorem small {i D z : Nat} (hi : i < 256) (hD : D ≤ 64 ^ (i + 1)) (hz : z ≤ (i + 1) * D) : z < 2 ^ 4000 ∧ D < 2 ^ 4000 := by
  have h1 : 64 ^ (i + 1) ≤ 64 ^ 256 := Nat.pow_le_pow_right (by decide) (by omega)
  have h2 : (64 : Nat) ^ 256 = 2 ^ 1536 := by
    rw [show (64 : Nat) = 2 ^ 6 from rfl, ← Nat.pow_mul]
  have h3 : (2 : Nat) ^ 1536 ≤ 2 ^ 3990 := Nat.pow_le_pow_right (by decide) (by decide)
  have h4 : (i + 1) * D ≤ 256 * 2 ^ 3990 := Nat.mul_le_mul (by omega) (by omega)
  have h5 : (256 : Nat) * 2 ^ 3990 < 2 ^ 4000 := by
    have : (2 : Nat) ^ 4000 = 1024 * 2 ^ 3990 := by rw [show (1024 : Nat) = 2 ^ 10 from rfl, ← Nat.pow_add]
    have p : (0 : Nat) < 2 ^ 3990 := Nat.pow_pos (by decide)
    omega
  have h6 : (2 : Nat) ^ 3990 < 2 ^ 4000 := Nat.pow_lt_pow_right (by decide) (by decide)
  omega
section
variable {i D n : Nat} {vs : List Rat}
/-- every partial sum is small, its parts too; a: where it starts, 0 or 1 -/
theorem acc_small (hi : i < 256) (hD0 : 0 < D) (hD : D ≤ 64 ^ i) (hn : 0 < n) (hn2 : n ≤ 60) (hl : vs.length = n) (h : ∀ v ∈ vs, BM D i v) {a : Rat} (ha : a = 0 ∨ a = 1) (j : Nat) : Sm (accM (mkRat 1 n) a (vs.take j)) ∧ (∀ v ∈ vs, Sm v ∧ Sm (v * mkRat 1 n)) := by
  have hp : 0 < D * n := Nat.mul_pos hD0 hn
  have hDn : D * n ≤ 64 ^ (i + 1) := by
    rw [Nat.pow_succ]
    exact Nat.mul_le_mul hD (by omega)
  constructor
  · have hA : ∃ A : Nat, a = mkRat (A : Int) (D * n) ∧ A ≤ D * n := by
      rcases ha with rfl | rfl
      · exact ⟨0, mk_zero _, Nat.zero_le _⟩
      · exact ⟨D * n, mk_one _ hp, Nat.le_refl _⟩
    obtain ⟨A, rfl, hA⟩ := hA
    obtain ⟨Z, e, hZ⟩ := accM_mk hD0 hn (vs.take j) A fun v hv => h v (List.mem_of_mem_take hv)
    rw [e]
    have h1 : (vs.take j).length * (i * D) ≤ n * (i * D) := Nat.mul_le_mul_right _ (by rw [List.length_take]; omega)
    have h2 : n * (i * D) = i * (D * n) := by rw [Nat.mul_comm n, Nat.mul_assoc]
    have h3 : (i + 1) * (D * n) = i * (D * n) + D * n := by rw [Nat.add_mul, Nat.one_mul]
    obtain ⟨q1, q2⟩ := small (z := Z) hi hDn (by omega)
    exact sm_mk hp q1 q2
  · intro v hv
    obtain ⟨z, e, hz⟩ := h v hv
    have h0 : D ≤ D * n := Nat.le_mul_of_pos_right _ hn
    have h1 : i * D ≤ (i + 1) * (D * n) := Nat.mul_le_mul (by omega) h0
    obtain ⟨q1, q2⟩ := small (z := z) hi hDn (by omega)
    constructor
    · rw [e]
      exact sm_mk hD0 q1 (by omega)
    · rw [e, mk_mul]
      exact sm_mk hp q1 q2
/-- the value: what it is made of -/
theorem comb_BM (hD0 : 0 < D) (hn : 0 < n) (hl : vs.length = n) (h : ∀ v ∈ vs, BM D i v) : BM (D * n) (i + 1) (accM (mkRat 1 n) 1 vs) := by
  have hp : 0 < D * n := Nat.mul_pos hD0 hn
  obtain ⟨Z, e, hZ⟩ := accM_mk hD0 hn vs (D * n) h
  rw [mk_one _ hp]
  refine ⟨Z, e, ?_⟩
  have h2 : n * (i * D) = i * (D * n) := by rw [Nat.mul_comm n, Nat.mul_assoc]
  have h3 : (i + 1) * (D * n) = i * (D * n) + D * n := by rw [Nat.add_mul, Nat.one_mul]
  rw [hl] at hZ
  omega
theorem sm_one : Sm 1 := ⟨by decide, by decide⟩
theorem sm_inv (hn2 : n ≤ 60) (hn : 0 < n) : Sm (mkRat 1 n) := by
  have h : (64 : Nat) < 2 ^ 4000 := Nat.lt_of_lt_of_le (by decide : (64 : Nat) < 2 ^ 7) (Nat.pow_le_pow_right (by decide) (by decide))
  exact sm_mk (z := 1) hn (by omega) (by omega)
end
end K4
set_option Elab.async false
set_option linter.all false
set_option maxRecDepth 100000
set_option maxHeartbeats 400000
set_option exponentiation.threshold 10000
/-! mean_moves -/
namespace K4
open PySem PySem.Spec PyProof.Rows L2 K4R
theorem RT.kt {H H' : Hp} {a : Addr} {r : Rat} (k : KT H H') (h : RT H a r) : RT H' a r := k _ _ h
def FoundM (ks es : List (List Int)) (H : Hp) (lf : List (List Int × V)) (S : List (List Int)) (D i : Nat) : Prop := ∀ k ∈ S, ∃ (u : Addr) (v : Rat), valV lf k = some (.ref u) ∧ RT H u v ∧ Val ks es combM k v ∧ BM D i v
theorem FoundM.kt {ks es : List (List Int)} {H H' : Hp} {lf : List (List Int × V)} {S : List (List Int)} {D i : Nat} (kt : KT H H') (h : FoundM ks es H lf S D i) : FoundM ks es H' lf S D i := fun k hk => let ⟨u, v, h1, h2, h3, h4⟩ := h k hk; ⟨u, v, h1, h2.kt kt, h3, h4⟩
theorem BM.up {D i : Nat} {r : Rat} (h : BM D i r) : BM D (i + 1) r := by
  obtain ⟨z, e, hz⟩ := h
  refine ⟨z, e, ?_⟩
  rw [Nat.add_mul, Nat.one_mul]
  omega
theorem FoundM.put {ks es : List (List Int)} {H : Hp} {lf : List (List Int × V)} {S : List (List Int)} {D D2 i : Nat} {k : List Int} {u : Addr} {v : Rat} (h : FoundM ks es H lf S D i) (up : ∀ r, BM D i r → BM D2 (i + 1) r) (hr : RT H u v) (hv : Val ks es combM k v) (hb : BM D2 (i + 1) v) :
    FoundM ks es H (putK lf k (.ref u)) (S ++ [k]) D2 (i + 1) := fun z hz => by
  rw [valV_put]
  by_cases e : z = k
  · rw [if_pos e, e]
    exact ⟨u, v, rfl, hr, hv, hb⟩
  · rw [if_neg e]
    rcases List.mem_append.mp hz with hz | hz
    · obtain ⟨u, v, h1, h2, h3, h4⟩ := h z hz
      exact ⟨u, v, h1, h2, h3, up _ h4⟩
    · exact absurd (List.mem_singleton.mp hz) e
theorem paired_map {α β γ : Type} {F : α → γ → Prop} {f : β → γ} : ∀ {l : List α} {r : List β}, Paired (fun a b => F a (f b)) l r → Paired F l (r.map f)
  | _, _, .nil => .nil
  | _, _, .cons h t => .cons h (paired_map t)
theorem one_lt9000 {n : Nat} (h : n ≤ 60) : n < 2 ^ 9000 := Nat.lt_of_lt_of_le (by omega : n < 2 ^ 7) (Nat.pow_le_pow_right (by decide) (by decide))
section
variable {P : Program} {w : World} {K : PySem.W.Frag} {mg : Str → Option Value} {base : Heap} {C : Addr}
def sp_mean (C : Addr) : Sp := fun vs H Q E => ∃ (t b c : Addr) (n m : Int) (ks es : List (List Int)) (s : List Int), vs = [.ref t, .ref b, .ref c] ∧ TabAt H t n ks ∧ TabAt H b m es ∧ IT H c s ∧ Ok n m ks es ∧ SOk n m s ∧
  (∀ H', Same H H' → ¬ Term ks es s → E (.ref C) none H') ∧ ∀ (u : Addr) (v : Rat) (H' : Hp), Same H H' → Term ks es s → RT H' u v → Val ks es combM s v → Q (.ref u) H'
theorem ok_mean_moves (T : Txt K mg) (G_walk_in : FnAt P w K mg base (L2.CX P w) 5 "walk_in" ["table", "web", "kinds"] (sp_walk_in C)) (G_plus : FnAt P w K mg base CX0 3 "plus" ["one", "other"] (sp_bin fun r s => r + s)) (G_times : FnAt P w K mg base CX0 3 "times" ["one", "other"] (sp_bin fun r s => r * s))
    (G_reduced : FnAt P w K mg base CX0 2 "reduced" ["numerator", "denominator"] sp_ratio) : FnAt P w K mg base (L2.CX P w) 6 "mean_moves" ["table", "web", "kinds"] (sp_mean C) := by
  refine fn_body T.d_mean_moves sc_mean_moves (fun _ _ _ _ _ _ us hl => match us, hl with | [_, _, _], _ => rfl) ?_ (fun f cdv A outer s H vs Q E hr h => ?_)
  · rintro vs H Q E ⟨_, _, _, _, _, _, _, _, rfl, _⟩
    rfl
  · refine ⟨_, (pss_cons (ps_asg (pe_cf G_walk_in (hr.mono (by decide)) rfl (passes_call (takes_of rfl rfl rfl rfl) (fun _ _ _ _ h => h)) (pa_cons (pv 0) (pa_cons (pv 1) (pa_cons (pv 2) pa_nil)))) (pg_tup rfl (pgs_cons (pg_name (i := 3) sc_mean_moves.nd rfl (Or.inl rfl)) (pgs_cons (pg_name (i := 4) sc_mean_moves.nd rfl (Or.inl rfl)) pgs_nil))))
    (PSs.nox (pss_cons (ps_set (i := 5) sc_mean_moves.nd rfl (Or.inl rfl) pe_dnewT)
    (pss_cons (ps_for PassesOwn.never rfl (pi_list (pv 4)) (pg_name (i := 6) sc_mean_moves.nd rfl (Or.inl rfl))
    (pss_cons (ps_set (i := 7) sc_mean_moves.nd rfl (Or.inl rfl) (pe_tup (pa_cons pe_int (pa_cons pe_int pa_nil))))
    (pss_cons (ps_for PassesOwn.never rfl (pi_list (pe_dget (hu_of hr) (pv 3) (pv 6) (fun _ _ => rfl))) (pg_name (i := 8) sc_mean_moves.nd rfl (Or.inl rfl))
    (pss_one (ps_set (i := 7) sc_mean_moves.nd rfl (Or.inl rfl) (pe_cf G_plus (hr.mono (by decide)) rfl pass00 (pa_cons (pv 7) (pa_cons (pe_cf G_times (hr.mono (by decide)) rfl pass00 (pa_cons (pe_dget (hu_of hr) (pv 5) (pv 8) (fun _ _ => rfl)) (pa_cons (pe_cf G_reduced (hr.mono (by decide)) rfl pass00 (pa_cons pe_int (pa_cons (pe_callB call_len_seq rfl T.b_len (by decide +kernel) (pa_cons (pe_dget (hu_of hr) (pv 3) (pv 6) (fun _ _ => rfl)) pa_nil)) pa_nil))) pa_nil))) pa_nil))))))
    (pss_one (ps_dput (hu_of hr) (pv 5) (pv 6) (pe_ifExp (pt_cmpR (op_neD hr.units) (pe_dget (hu_of hr) (pv 3) (pv 6) (fun _ _ => rfl)) (pe_lst pa_nil) (nomark _)) (pe_cf G_plus (hr.mono (by decide)) rfl pass00 (pa_cons (pv 7) (pa_cons (pe_tup (pa_cons pe_int (pa_cons pe_int pa_nil))) pa_nil))) (pv 7)) rfl)))))
    (pss_one (ps_ret (pe_dget (hu_of hr) (pv 5) (pv 2) (fun _ _ => rfl)))))))), ?_⟩
    obtain ⟨t, b, c, n, m, ks, es, s, rfl, ht, hb, hc, o, so, q1, q2⟩ := h
    refine ⟨_, rfl, ?_⟩
    refine ⟨_, rfl, ?_⟩
    refine ⟨_, rfl, ?_⟩
    refine ⟨_, _, _, _, _, _, _, _, rfl, ht, hb, hc, o, so, q1, fun p d lo x l bs F H1 s1 ep ed vals wd elo ibs tp => ?_⟩
    refine ⟨_, _, rfl, .of ep, rfl, ?_⟩
    refine ⟨_, _, rfl, ?_⟩
    refine ⟨_, _, rfl, ?_⟩
    refine ⟨rfl, ?_⟩
    intro df hdf
    have s2 : Same H1 (upd H1 df (.dT [])) := same_new hdf
    refine ⟨_, rfl, ?_⟩
    refine ⟨_, rfl, ⟨_, .of (s2 _ _ elo)⟩, ?_⟩
    have tlen := tp.len
    have blen := ibs.length
    refine for_it (walk_list (xs := bs.map V.ref)) (fun i σ H2 => Same H1 H2 ∧ ∃ lf o6 o7 o8 D, H2 df = some (.dT (dI lf)) ∧ lf.length ≤ i ∧ 0 < D ∧ D ≤ 64 ^ i ∧ FoundM ks es H2 lf (F.take i) D i ∧ σ = [some (.ref t), some (.ref b), some (.ref c), some (.ref d), some (.ref lo), some (.ref df), o6, o7, o8])
      ⟨s2, [], none, none, none, 1, upd_same, Nat.le_refl _, by decide, by decide, fun k hk => by simp at hk, rfl⟩ (fun i σ H2 _ pp => .of (pp.1 _ _ elo)) (fun i x0 σ H2 H3 hi pp yy => ?_) (fun σ H2 pp => ?_)
    · obtain ⟨s3, lf, o6, o7, o8, D, edf, hlf, hD0, hD, fd, rfl⟩ := pp
      obtain ⟨rfl, hx⟩ := yy
      obtain ⟨a, k, rfl, ea, ek, ia⟩ := its_get ibs hx
      have hkL := tp.sub k (List.mem_of_getElem? ek)
      obtain ⟨u, hu, hum⟩ := valV_of_mem hkL
      obtain ⟨la, as, ev, _, ela, ias⟩ := vals _ hum
      dsimp only at ev ias
      subst ev
      have hi256 : i < 256 := by
        rw [List.length_map] at hi
        omega
      obtain ⟨us, hus⟩ := paired_of (F := fun z (uv : Addr × Rat) => valV lf z = some (.ref uv.1) ∧ RT H3 uv.1 uv.2 ∧ Val ks es combM z uv.2 ∧ BM D i uv.2) (l := succ ks es k) fun z hz => by
        obtain ⟨u, v, h1, h2, h3, h4⟩ := fd z (tp.bef i k ek z hz)
        exact ⟨(u, v), h1, h2, h3, h4⟩
      have hul := hus.length
      have hal := ias.length
      have hsl := succ_len (s := k) o
      have hbm : ∀ v ∈ us.map (·.2), BM D i v := fun v hv => by
        obtain ⟨uv, huv, rfl⟩ := List.mem_map.mp hv
        obtain ⟨z, h1, h2, h3, h4⟩ := Paired.right hus uv huv
        exact h4
      have hval : Val ks es combM k (combM (us.map (·.2))) := Val.of (paired_map (Paired.mono (fun _ _ h => h.2.2.1) hus))
      have hvl : (us.map (·.2)).length = as.length := by rw [List.length_map]; omega
      refine ⟨by show 2 ≤ sizeLine; decide, fun p1 hp1 => ?_⟩
      have s4 : Same H3 (upd H3 p1 (.tup [.int 0, .int 1])) := same_new hp1
      have r0 : RT (upd H3 p1 (.tup [.int 0, .int 1])) p1 (0 : Rat) := upd_same
      generalize (upd H3 p1 (.tup [.int 0, .int 1])) = H4 at s4 r0 ⊢
      have s5 := s3.trans s4
      refine ⟨_, rfl, ?_⟩
      refine ⟨_, rfl, ?_⟩
      have gD : ∀ H', Same H4 H' → DGet H' d (.ref a) (some (.ref la)) := fun H' s' => by
        rw [← hu]
        exact dget ((s5.trans s') _ _ ed) (IT.kt (KT.of (s5.trans s')) ia)
      refine ⟨_, _, rfl, gD _ (Same.refl _), ?_⟩
      refine ⟨_, rfl, ⟨_, .of (s5 _ _ ela)⟩, ?_⟩
      refine for_it (walk_list (xs := as.map V.ref)) (fun j σ H5 => Same H4 H5 ∧ ∃ pm o8, RT H5 pm (accM (mkRat 1 as.length) 0 ((us.map (·.2)).take j)) ∧ σ = [some (.ref t), some (.ref b), some (.ref c), some (.ref d), some (.ref lo), some (.ref df), some (.ref a), some (.ref pm), o8])
        ⟨Same.refl _, p1, o8, r0, rfl⟩ (fun j σ H5 _ pp => .of (pp.1 _ _ (s5 _ _ ela))) (fun j x1 σ H5 H6 hj pp yy => ?_) (fun σ H5 pp => ?_)
      · obtain ⟨s6, pm, o8, hpm, rfl⟩ := pp
        obtain ⟨rfl, hx1⟩ := yy
        obtain ⟨a1, z, rfl, ea1, ez, iz⟩ := its_get ias hx1
        obtain ⟨⟨u, v⟩, euv, h1, h2, h3, h4⟩ := paired_get hus ez
        dsimp only at h1 h2 h3 h4
        have evj : (us.map (·.2))[j]? = some v := by rw [List.getElem?_map, euv]; rfl
        have hvm : v ∈ us.map (·.2) := List.mem_of_getElem? evj
        have hn0 : 0 < as.length := by
          rw [List.length_map] at hj
          omega
        obtain ⟨sm1, sm2⟩ := acc_small hi256 hD0 hD hn0 (by omega) hvl hbm (a := 0) (.inl rfl) j
        have s7 := s5.trans s6
        have s8 := s4.trans s6
        refine ⟨_, rfl, ?_⟩
        refine ⟨_, rfl, ?_⟩
        refine ⟨_, rfl, ?_⟩
        have gF : DGet H6 df (.ref a1) (some (.ref u)) := by
          rw [← h1]
          exact dget (s8 _ _ edf) (IT.kt (KT.of s7) iz)
        refine ⟨_, _, rfl, gF, ?_⟩
        refine ⟨_, rfl, ?_⟩
        refine ⟨_, rfl, ?_⟩
        refine ⟨_, _, rfl, gD _ s6, ?_⟩
        refine ⟨_, _, rfl, .inl (.of (s7 _ _ ela)), ?_⟩
        have el : (as.map V.ref).length = as.length := List.length_map ..
        rw [el]
        refine ⟨1, as.length, rfl, hn0, one_lt9000 (by omega), fun q1 hq1 => ?_⟩
        have t1 : Same H6 (upd H6 q1 (.tup [.int (mkRat 1 as.length).num, .int (((mkRat 1 as.length).den : Nat) : Int)])) := same_new hq1
        have rq1 : RT (upd H6 q1 (.tup [.int (mkRat 1 as.length).num, .int (((mkRat 1 as.length).den : Nat) : Int)])) q1 (mkRat 1 as.length) := upd_same
        generalize (upd H6 q1 (.tup [.int (mkRat 1 as.length).num, .int (((mkRat 1 as.length).den : Nat) : Int)])) = H7 at t1 rq1 ⊢
        refine ⟨_, _, v, mkRat 1 as.length, rfl, RT.kt (KT.of (s8.trans t1)) h2, rq1, (sm2 v hvm).1, sm_inv (by omega) hn0, fun q2 hq2 => ?_⟩
        dsimp only
        generalize hw : v * mkRat 1 as.length = vw at sm2 ⊢
        have t2 : Same H7 (upd H7 q2 (.tup [.int vw.num, .int ((vw.den : Nat) : Int)])) := same_new hq2
        have rq2 : RT (upd H7 q2 (.tup [.int vw.num, .int ((vw.den : Nat) : Int)])) q2 vw := upd_same
        generalize (upd H7 q2 (.tup [.int vw.num, .int ((vw.den : Nat) : Int)])) = H8 at t2 rq2 ⊢
        have t12 := t1.trans t2
        have smw : Sm vw := by rw [← hw]; exact (sm2 v hvm).2
        refine ⟨_, _, _, vw, rfl, RT.kt (KT.of t12) hpm, rq2, sm1, smw, fun q3 hq3 => ?_⟩
        dsimp only
        have ea3 : accM (mkRat 1 as.length) 0 ((us.map (·.2)).take j) + vw = accM (mkRat 1 as.length) 0 ((us.map (·.2)).take (j + 1)) := by rw [accM_snoc evj, hw]
        rw [ea3]
        exact ⟨s6.trans (t12.trans (same_new hq3)), q3, some (.ref a1), upd_same, rfl⟩
      · obtain ⟨s6, pm, o8, hpm, rfl⟩ := pp
        have s7 := s5.trans s6
        have s8 := s4.trans s6
        rw [List.take_of_length_le (by rw [List.length_map, List.length_map]; omega)] at hpm
        have fin : ∀ (pv : Addr) (v : Rat) (D2 : Nat) (H9 : Hp), Same H5 H9 → RT H9 pv v → Val ks es combM k v → 0 < D2 → D2 ≤ 64 ^ (i + 1) → (∀ r, BM D i r → BM D2 (i + 1) r) → BM D2 (i + 1) v → ∃ a_1 H10, V.ref df = V.ref a_1 ∧ DPut H9 a_1 (.ref a) (.ref pv) H10 ∧ (Same H1 H10 ∧ ∃ lf o6 o7 o8_1 D, H10 df = some (.dT (dI lf)) ∧ lf.length ≤ i + 1 ∧ 0 < D ∧ D ≤ 64 ^ (i + 1) ∧ FoundM ks es H10 lf (F.take (i + 1)) D (i + 1) ∧
            [some (.ref t), some (.ref b), some (.ref c), some (.ref d), some (.ref lo), some (.ref df), some (.ref a), some (.ref pm), o8] = [some (.ref t), some (.ref b), some (.ref c), some (.ref d), some (.ref lo), some (.ref df), o6, o7, o8_1]) := fun pv v D2 H9 s9 rv hv hD2 hD2' up hb => by
          have s10 := s8.trans s9
          have e9 := s10 _ _ edf
          have kt9 := KT.dT (o := .dT (dI (putK lf k (.ref pv)))) e9
          refine ⟨df, _, rfl, dput e9 (IT.kt (KT.of (s7.trans s9)) ia) (by omega), same_to (s3.trans s10) hdf, putK lf k (.ref pv), _, _, _, D2, upd_same, ?_, hD2, hD2', ?_, rfl⟩
          · have := putK_length lf k (.ref pv)
            omega
          · rw [take_succ_get ek]
            exact FoundM.put ((fd.kt (KT.of s10)).kt kt9) up (rv.kt kt9) hv hb
        refine ⟨_, rfl, ?_⟩
        refine ⟨_, rfl, ?_⟩
        refine ⟨_, _, rfl, gD _ s6, ?_⟩
        refine ⟨Nat.zero_le _, fun p2 hp2 => ?_⟩
        have t1 : Same H5 (upd H5 p2 (.lst [])) := same_new hp2
        have e1 : (upd H5 p2 (.lst [])) p2 = some (.lst []) := upd_same
        generalize (upd H5 p2 (.lst [])) = H6 at t1 e1 ⊢
        have s9 := s7.trans t1
        refine ⟨_, _, dp_lst (s9 _ _ ela) (ITs.kt (KT.of s9) ias), dp_nil e1, shaped_its _, shaped_nil, ?_⟩
        rw [eqv_nil]
        refine ⟨_, rfl, ?_⟩
        refine ifB (fun e => ?_) (fun e => ?_)
        · have hne : succ ks es k ≠ [] := fun z => by
            rw [z] at e
            simp at e
          have hn0 : 0 < as.length := by
            rw [hal]
            exact List.length_pos_iff.mpr hne
          have hvne : us.map (·.2) ≠ [] := fun z => by
            rw [z] at hvl
            simp at hvl
            omega
          obtain ⟨sm1, sm2⟩ := acc_small hi256 hD0 hD hn0 (by omega) hvl hbm (a := 0) (.inl rfl) (us.map (·.2)).length
          rw [List.take_of_length_le (Nat.le_refl _)] at sm1
          refine ⟨_, rfl, ?_⟩
          refine ⟨by show 2 ≤ sizeLine; decide, fun p3 hp3 => ?_⟩
          have t2 : Same H6 (upd H6 p3 (.tup [.int 1, .int 1])) := same_new hp3
          have r1 : RT (upd H6 p3 (.tup [.int 1, .int 1])) p3 (1 : Rat) := upd_same
          generalize (upd H6 p3 (.tup [.int 1, .int 1])) = H7 at t2 r1 ⊢
          have t12 := t1.trans t2
          refine ⟨_, _, _, 1, rfl, RT.kt (KT.of t12) hpm, r1, sm1, sm_one, fun p4 hp4 => ?_⟩
          dsimp only
          have ec : combM (us.map (·.2)) = accM (mkRat 1 as.length) 0 (us.map (·.2)) + 1 := by
            unfold combM
            rw [if_neg hvne, hvl]
          rw [ec] at hval
          have hbv : BM (D * as.length) (i + 1) (accM (mkRat 1 as.length) 0 (us.map (·.2)) + 1) := by
            rw [← accM_law]
            exact comb_BM hD0 hn0 hvl hbm
          generalize accM (mkRat 1 as.length) 0 (us.map (·.2)) + 1 = vv at hval hbv ⊢
          have t3 : Same H7 (upd H7 p4 (.tup [.int vv.num, .int ((vv.den : Nat) : Int)])) := same_new hp4
          have rv : RT (upd H7 p4 (.tup [.int vv.num, .int ((vv.den : Nat) : Int)])) p4 vv := upd_same
          generalize (upd H7 p4 (.tup [.int vv.num, .int ((vv.den : Nat) : Int)])) = H8 at t3 rv ⊢
          refine ⟨_, rfl, ?_⟩
          refine ⟨_, rfl, ?_⟩
          refine fin p4 vv (D * as.length) H8 (t12.trans t3) rv hval (Nat.mul_pos hD0 hn0) ?_ (fun r hr => hr.scale hn0) hbv
          rw [Nat.pow_succ]
          exact Nat.mul_le_mul hD (by omega)
        · have h0 : succ ks es k = [] := by simpa using e
          have hv0 : us.map (·.2) = [] := List.length_eq_zero_iff.mp (by rw [hvl, hal, h0]; rfl)
          rw [hv0] at hpm hval
          refine ⟨_, rfl, ?_⟩
          refine ⟨_, rfl, ?_⟩
          refine ⟨_, rfl, ?_⟩
          refine fin pm 0 D H6 t1 (RT.kt (KT.of t1) hpm) hval hD0 ?_ (fun r hr => hr.up) ⟨0, mk_zero D, Nat.zero_le _⟩
          rw [Nat.pow_succ]
          omega
    · obtain ⟨s3, lf, o6, o7, o8, D, edf, hlf, hD0, hD, fd, rfl⟩ := pp
      have hS : s ∈ F.take (bs.map V.ref).length := by
        rw [List.take_of_length_le (by rw [List.length_map]; omega)]
        exact tp.all s wd.st
      obtain ⟨u, v, hu, ru, vv, _⟩ := fd s hS
      refine ⟨_, rfl, ?_⟩
      refine ⟨_, rfl, ?_⟩
      have gF : DGet H2 df (.ref c) (some (.ref u)) := by
        rw [← hu]
        exact dget edf (IT.kt (KT.of (s1.trans s3)) hc)
      refine ⟨_, _, rfl, gF, ?_⟩
      exact q2 u v _ (s1.trans s3) (topo_term wd tp) ru vv
end
end K4
set_option Elab.async false
set_option linter.all false
set_option maxRecDepth 100000
set_option maxHeartbeats 400000
/-! the draws: the row, one draw, pick, order, kinds -/
namespace K4
open PySem PySem.Spec PyProof.Rows L2 K4R
/-- all but the thing at r is kept -/
def Off (r : Addr) (H H' : Hp) : Prop := ∀ b o, b ≠ r → H b = some o → H' b = some o
theorem Off.refl {r : Addr} {H : Hp} : Off r H H := fun _ _ _ h => h
theorem Off.trans {r : Addr} {H H1 H2 : Hp} (a : Off r H H1) (b : Off r H1 H2) : Off r H H2 := fun c o hc h => b c o hc (a c o hc h)
theorem Off.of {r : Addr} {H H' : Hp} (s : Same H H') : Off r H H' := fun b o _ h => s b o h
theorem Off.upd {r : Addr} {H : Hp} {o : HO} : Off r H (upd H r o) := fun b u hb h => by rw [upd_ne hb]; exact h
theorem Off.put {r p : Addr} {H H1 : Hp} {o : HO} (f : Off r H H1) (hp : H p = none) : Off r H (L2.upd H1 p o) := fun b u hb h => by
  by_cases e : b = p
  · rw [e, hp] at h
    cases h
  · rw [upd_ne e]
    exact f b u hb h
theorem Off.kt {r : Addr} {H H' : Hp} {xs : List V} (f : Off r H H') (hr : H r = some (.lst xs)) : KT H H' := fun a ys e => by
  by_cases h : a = r
  · rw [h, hr] at e
    cases e
  · exact f a _ h e
theorem Off.none {r p : Addr} {H H' : Hp} (f : Off r H H') (hr : H' r ≠ .none) (h : H' p = none) : H p = none := by
  by_cases e : p = r
  · rw [e] at h
    exact absurd h hr
  · cases q : H p with
    | none => rfl
    | some o =>
      rw [f p o e q] at h
      cases h
section
variable {K : PySem.W.Frag} {H H' : Hp} {a r : Addr} {xs : List V}
theorem sql_same (s : Same H H') (h : SqL K H a xs) : SqL K H' a xs := Same.seq s h
theorem sql_off (f : Off r H H') (hn : a ≠ r) (h : SqL K H a xs) : SqL K H' a xs := by
  rcases h with (h | ⟨o, h⟩) | h
  · exact .inl (.inl (f _ _ hn h))
  · exact .inl (.inr ⟨o, f _ _ hn h⟩)
  · exact .inr h
/-- the script's list: nobody writes it -/
def ScrL (K : PySem.W.Frag) (H : Hp) (a : Addr) (xs : List V) : Prop := (∃ o, H a = some (.frz o (.lst xs))) ∨ ∀ H', SqL K H' a xs
theorem ScrL.sql (h : ScrL K H a xs) : SqL K H a xs := by
  rcases h with ⟨o, h⟩ | h
  · exact .inl (.inr ⟨o, h⟩)
  · exact h H
theorem ScrL.same (s : Same H H') (h : ScrL K H a xs) : ScrL K H' a xs := by
  rcases h with ⟨o, h⟩ | h
  · exact .inl ⟨o, s _ _ h⟩
  · exact .inr h
theorem ScrL.upd {p : Addr} {o : HO} (hp : ∀ o u, H p ≠ some (.frz o u)) (h : ScrL K H a xs) : ScrL K (L2.upd H p o) a xs := by
  rcases h with ⟨o2, h⟩ | h
  · refine .inl ⟨o2, ?_⟩
    rw [upd_ne (fun z => hp _ _ (by rw [← z]; exact h))]
    exact h
  · exact .inr h
theorem ScrL.of (hO : Only H) (h : SqL K H a xs) : ScrL K H a xs := by
  rcases h with (h | ⟨o, h⟩) | h
  · rcases hO a with e | ⟨o, ys, e⟩
    · rw [e] at h; cases h
    · rw [e] at h; cases h
  · exact .inl ⟨o, h⟩
  · exact .inr fun _ => .inr h
theorem nf_lst {p : Addr} {ys : List V} (e : H p = some (.lst ys)) : ∀ o u, H p ≠ some (.frz o u) := fun o u z => by rw [e] at z; cases z
theorem nf_dT {p : Addr} {kvs : List (List Key × V)} (e : H p = some (.dT kvs)) : ∀ o u, H p ≠ some (.frz o u) := fun o u z => by rw [e] at z; cases z
/-- the row of the draws -/
def RowAt (K : PySem.W.Frag) (H : Hp) (r : Addr) : Prop := ∃ (sc : Addr) (ns : List Int) (i x g : Int), H r = some (.lst [.ref sc, .int i, .int x, .int g]) ∧ ScrL K H sc (ns.map V.int) ∧ 0 ≤ i
theorem RowAt.same (s : Same H H') (h : RowAt K H r) : RowAt K H' r := let ⟨sc, ns, i, x, g, h1, h3, h4⟩ := h; ⟨sc, ns, i, x, g, s _ _ h1, h3.same s, h4⟩
theorem RowAt.lst (h : RowAt K H r) : ∃ xs, H r = some (.lst xs) := let ⟨sc, ns, i, x, g, h1, _⟩ := h; ⟨_, h1⟩
theorem RowAt.upd {p : Addr} {o : HO} (hp : ∀ o u, H p ≠ some (.frz o u)) (hn : p ≠ r) (h : RowAt K H r) : RowAt K (L2.upd H p o) r :=
  let ⟨sc, ns, i, x, g, h1, h3, h4⟩ := h; ⟨sc, ns, i, x, g, by rw [upd_ne (Ne.symm hn)]; exact h1, h3.upd hp, h4⟩
end
section
variable {P : Program} {w : World} {K : PySem.W.Frag} {mg : Str → Option Value} {base : Heap}
def sp_taken (K : PySem.W.Frag) : Sp := fun vs H Q _ => ∃ (r : Addr) (m : Int), vs = [.ref r, .int m] ∧ 0 < m ∧ m < 1073741824 ∧ RowAt K H r ∧ ∀ (v : Int) (H' : Hp), Off r H H' → RowAt K H' r → 0 ≤ v → v < m → Q (.int v) H'
theorem ok_law_taken (T : Txt K mg) : FnAt P w K mg base CX0 1 "_law_taken" ["_law_row", "_law_many"] (sp_taken K) := by
  refine fn_body T.d_law_taken sc_law_taken (fun _ _ _ _ _ _ us hl => match us, hl with | [_, _], _ => rfl) ?_ (fun f cdv A outer s H vs Q E hr h => ?_)
  · rintro vs H Q E ⟨_, _, rfl, _⟩
    rfl
  · refine ⟨_, PSs.nox (pss_cons (ps_if (pt_cmpR op_gt (pe_ix ix_list (pv 0) pe_int (fun _ _ => rfl)) pe_int (nomark _)) (pss_cons (ps_set (i := 2) sc_law_taken.nd rfl (Or.inl rfl) (pe_op op_mod (pe_callTy call_int1 rfl T.b_int (by decide +kernel) (pa_cons (pe_ix ix_list (pv 0) pe_int (fun _ _ => rfl)) pa_nil)) (pv 1)))
    (pss_cons (ps_asg (pe_op op_fdiv (pe_ix ix_list (pv 0) pe_int (fun _ _ => rfl)) (pv 1)) (pg_sub (pv 0) pe_int set_list))
    (pss_one (ps_ret (pv 2))))) pss_nil)
    (pss_cons (ps_asg (pe_op op_add (pe_ix ix_list (pv 0) pe_int (fun _ _ => rfl)) pe_int) (pg_sub (pv 0) pe_int set_list))
    (pss_cons (ps_if (pt_cmpR op_gt (pe_ix ix_list (pv 0) pe_int (fun _ _ => rfl)) (pe_callB call_len_seq rfl T.b_len (by decide +kernel) (pa_cons (pe_ix ix_list (pv 0) pe_int (fun _ _ => rfl)) pa_nil)) (nomark _)) (pss_cons (ps_asg (pe_op op_mod (pe_callTy call_int1 rfl T.b_int (by decide +kernel) (pa_cons (pe_op op_add (pe_op op_mul (pe_ix ix_list (pv 0) pe_int (fun _ _ => rfl)) pe_int) pe_int) pa_nil)) pe_int) (pg_sub (pv 0) pe_int set_list))
    (pss_one (ps_ret (pe_op op_mod (pe_callTy call_int1 rfl T.b_int (by decide +kernel) (pa_cons (pe_op op_fdiv (pe_ix ix_list (pv 0) pe_int (fun _ _ => rfl)) pe_int) pa_nil)) (pv 1))))) pss_nil)
    (pss_cons (ps_set (i := 3) sc_law_taken.nd rfl (Or.inl rfl) (pe_ix ix_list (pe_ix ix_list (pv 0) pe_int (fun _ _ => rfl)) (pe_op op_sub (pe_ix ix_list (pv 0) pe_int (fun _ _ => rfl)) pe_int) (fun _ _ => rfl)))
    (pss_cons (ps_asg (pe_op op_mod (pe_callTy call_int1 rfl T.b_int (by decide +kernel) (pa_cons (pe_op op_add (pe_op op_add (pe_op op_mul (pe_ix ix_list (pv 0) pe_int (fun _ _ => rfl)) pe_int) (pv 3)) pe_int) pa_nil)) pe_int) (pg_sub (pv 0) pe_int set_list))
    (pss_cons (ps_if (pt_cmpR op_ge (pv 3) (pe_op op_pow pe_int pe_int) (nomark _)) (pss_one (ps_asg (pe_op op_fdiv (pv 3) (pv 1)) (pg_sub (pv 0) pe_int set_list))) pss_nil)
    (pss_one (ps_ret (pe_op op_mod (pe_callTy call_int1 rfl T.b_int (by decide +kernel) (pa_cons (pv 3) pa_nil)) (pv 1)))))))))), ?_⟩
    obtain ⟨r, m, rfl, hm0, hm1, ⟨sc, ns, i, x, g, er, hsc, hi⟩, q⟩ := h
    have md : ∀ z : Int, 0 ≤ z % m ∧ z % m < m := fun z => ⟨Int.emod_nonneg _ (by omega), Int.emod_lt_of_pos _ hm0⟩
    refine ⟨_, rfl, ?_⟩
    refine ⟨_, _, _, _, rfl, rfl, .of er, rfl, ?_⟩
    refine ⟨_, _, rfl, rfl, ?_⟩
    refine ⟨_, rfl, ?_⟩
    refine ifB (fun e => ?_) (fun e => ?_)
    · refine ⟨_, rfl, ?_⟩
      refine ⟨_, _, _, _, rfl, rfl, .of er, rfl, ?_⟩
      refine Or.inl ?_
      refine ⟨_, rfl, ?_⟩
      refine ⟨_, rfl, ?_⟩
      refine ⟨_, _, rfl, rfl, hm0, ?_⟩
      refine ⟨_, rfl, ?_⟩
      refine ⟨_, _, _, _, rfl, rfl, .of er, rfl, ?_⟩
      refine ⟨_, rfl, ?_⟩
      refine ⟨_, _, rfl, rfl, ⟨hm0, hm1⟩, ?_⟩
      refine ⟨_, rfl, ?_⟩
      refine ⟨_, _, _, _, rfl, rfl, er, rfl, ?_⟩
      refine ⟨_, rfl, ?_⟩
      exact q _ _ Off.upd ⟨sc, ns, i, x, g / m, upd_same, hsc.upd (nf_lst er), hi⟩ (md g).1 (md g).2
    · refine ⟨_, rfl, ?_⟩
      refine ⟨_, _, _, _, rfl, rfl, .of er, rfl, ?_⟩
      refine ⟨_, _, rfl, rfl, ?_⟩
      refine ⟨_, rfl, ?_⟩
      refine ⟨_, _, _, _, rfl, rfl, er, rfl, ?_⟩
      have er1 : upd H r (.lst [.ref sc, .int (i + 1), .int x, .int g]) r = some (.lst [.ref sc, .int (i + 1), .int x, .int g]) := upd_same
      have f1 : Off r H (upd H r (.lst [.ref sc, .int (i + 1), .int x, .int g])) := Off.upd
      have hsc1 : ScrL K (upd H r (.lst [.ref sc, .int (i + 1), .int x, .int g])) sc (ns.map V.int) := hsc.upd (nf_lst er)
      show tSeq _ _ _ _ (upd H r (.lst [.ref sc, .int (i + 1), .int x, .int g]))
      generalize (upd H r (.lst [.ref sc, .int (i + 1), .int x, .int g])) = H1 at er1 f1 hsc1 ⊢
      refine ⟨_, rfl, ?_⟩
      refine ⟨_, _, _, _, rfl, rfl, .of er1, rfl, ?_⟩
      refine ⟨_, rfl, ?_⟩
      refine ⟨_, _, _, _, rfl, rfl, .of er1, rfl, ?_⟩
      refine ⟨_, _, rfl, .inl hsc1.sql, ?_⟩
      refine ⟨_, _, rfl, rfl, ?_⟩
      refine ⟨_, rfl, ?_⟩
      refine ifB (fun e2 => ?_) (fun e2 => ?_)
      · refine ⟨_, rfl, ?_⟩
        refine ⟨_, _, _, _, rfl, rfl, .of er1, rfl, ?_⟩
        refine ⟨_, _, rfl, rfl, .inr (by decide), ?_⟩
        refine ⟨_, _, rfl, rfl, ?_⟩
        refine Or.inl ?_
        refine ⟨_, rfl, ?_⟩
        refine ⟨_, _, rfl, rfl, (by decide : (0 : Int) < 2147483647), ?_⟩
        refine ⟨_, rfl, ?_⟩
        refine ⟨_, _, _, _, rfl, rfl, er1, rfl, ?_⟩
        refine ⟨_, rfl, ?_⟩
        refine ⟨_, _, _, _, rfl, rfl, .of upd_same, rfl, ?_⟩
        refine ⟨_, _, rfl, rfl, ⟨by decide, by decide⟩, ?_⟩
        refine Or.inl ?_
        refine ⟨_, rfl, ?_⟩
        refine ⟨_, rfl, ?_⟩
        refine ⟨_, _, rfl, rfl, hm0, ?_⟩
        exact q _ _ (f1.trans Off.upd) ⟨sc, ns, i + 1, _, g, upd_same, hsc1.upd (nf_lst er1), by omega⟩ (md _).1 (md _).2
      · have hlt : i + 1 ≤ (ns.length : Int) := by
          rw [decide_eq_false_iff_not] at e2
          rw [List.length_map] at e2
          omega
        refine ⟨_, rfl, ?_⟩
        refine ⟨_, _, _, _, rfl, rfl, .of er1, rfl, ?_⟩
        refine ⟨_, rfl, ?_⟩
        refine ⟨_, _, _, _, rfl, rfl, .of er1, rfl, ?_⟩
        refine ⟨_, _, rfl, rfl, ?_⟩
        refine ⟨_, _, _, _, rfl, rfl, hsc1.sql, atI_ints (by omega) (by omega), ?_⟩
        refine ⟨_, rfl, ?_⟩
        refine ⟨_, _, _, _, rfl, rfl, .of er1, rfl, ?_⟩
        refine ⟨_, _, rfl, rfl, .inr (by decide), ?_⟩
        refine ⟨_, rfl, ?_⟩
        refine ⟨_, _, rfl, rfl, ?_⟩
        refine ⟨_, _, rfl, rfl, ?_⟩
        refine Or.inl ?_
        refine ⟨_, rfl, ?_⟩
        refine ⟨_, _, rfl, rfl, (by decide : (0 : Int) < 2147483647), ?_⟩
        refine ⟨_, rfl, ?_⟩
        refine ⟨_, _, _, _, rfl, rfl, er1, rfl, ?_⟩
        generalize hcell : gi ns (i + 1 - 1) = cell
        show tSeq _ _ _ _ (upd H1 r (.lst [.ref sc, .int (i + 1), .int ((x * 48271 + cell + 11) % 2147483647), .int g]))
        have er2 : upd H1 r (.lst [.ref sc, .int (i + 1), .int ((x * 48271 + cell + 11) % 2147483647), .int g]) r = some (.lst [.ref sc, .int (i + 1), .int ((x * 48271 + cell + 11) % 2147483647), .int g]) := upd_same
        have f2 : Off r H (upd H1 r (.lst [.ref sc, .int (i + 1), .int ((x * 48271 + cell + 11) % 2147483647), .int g])) := f1.trans Off.upd
        have hsc2 : ScrL K (upd H1 r (.lst [.ref sc, .int (i + 1), .int ((x * 48271 + cell + 11) % 2147483647), .int g])) sc (ns.map V.int) := hsc1.upd (nf_lst er1)
        generalize (upd H1 r (.lst [.ref sc, .int (i + 1), .int ((x * 48271 + cell + 11) % 2147483647), .int g])) = H2 at er2 f2 hsc2 ⊢
        refine ⟨_, rfl, ?_⟩
        refine ⟨_, _, rfl, rfl, ⟨(by decide : (0 : Int) ≤ 18), (by decide : (18 : Int) ≤ 1000000), (by decide : (10 : Int).natAbs < 2 ^ 64)⟩, ?_⟩
        refine ⟨_, _, rfl, rfl, ?_⟩
        refine ⟨_, rfl, ?_⟩
        refine ifB (fun e3 => ?_) (fun e3 => ?_)
        · refine ⟨_, rfl, ?_⟩
          refine ⟨_, rfl, ?_⟩
          refine ⟨_, _, rfl, rfl, ⟨hm0, hm1⟩, ?_⟩
          refine ⟨_, rfl, ?_⟩
          refine ⟨_, _, _, _, rfl, rfl, er2, rfl, ?_⟩
          refine ⟨_, rfl, ?_⟩
          refine Or.inl ?_
          refine ⟨_, rfl, ?_⟩
          refine ⟨_, rfl, ?_⟩
          refine ⟨_, _, rfl, rfl, hm0, ?_⟩
          exact q _ _ (f2.trans Off.upd) ⟨sc, ns, i + 1, _, _, upd_same, hsc2.upd (nf_lst er2), by omega⟩ (md _).1 (md _).2
        · refine ⟨_, rfl, ?_⟩
          refine Or.inl ?_
          refine ⟨_, rfl, ?_⟩
          refine ⟨_, rfl, ?_⟩
          refine ⟨_, _, rfl, rfl, hm0, ?_⟩
          exact q _ _ f2 ⟨sc, ns, i + 1, _, _, er2, hsc2, by omega⟩ (md _).1 (md _).2
def sp_pick (K : PySem.W.Frag) : Sp := fun vs H Q _ => ∃ (r l : Addr) (x y : V), vs = [.ref r, .ref l] ∧ l ≠ r ∧ H l = some (.lst [x, y]) ∧ RowAt K H r ∧ ∀ (z : V) (H' : Hp), Off r H H' → RowAt K H' r → (z = x ∨ z = y) → Q z H'
theorem ok_law_pick (T : Txt K mg) (G_law_taken : FnAt P w K mg base CX0 1 "_law_taken" ["_law_row", "_law_many"] (sp_taken K)) : FnAt P w K mg base CX0 2 "_law_pick" ["_law_row", "_law_things"] (sp_pick K) := by
  refine fn_body T.d_law_pick sc_law_pick (fun _ _ _ _ _ _ us hl => match us, hl with | [_, _], _ => rfl) ?_ (fun f cdv A outer s H vs Q E hr h => ?_)
  · rintro vs H Q E ⟨_, _, _, _, rfl, _⟩
    rfl
  · refine ⟨_, PSs.nox (pss_one (ps_ret (pe_ix ix_list (pv 1) (pe_cf G_law_taken (hr.mono (by decide)) rfl pass00 (pa_cons (pv 0) (pa_cons (pe_callB call_len_seq rfl T.b_len (by decide +kernel) (pa_cons (pv 1) pa_nil)) pa_nil))) (fun _ _ => rfl)))), ?_⟩
    obtain ⟨r, l, x, y, rfl, hne, el, ra, q⟩ := h
    refine ⟨_, rfl, ?_⟩
    refine ⟨_, rfl, ?_⟩
    refine ⟨_, rfl, ?_⟩
    refine ⟨_, _, rfl, .inl (.of el), ?_⟩
    refine ⟨_, _, rfl, (by decide : (0 : Int) < 2), (by decide : (2 : Int) < 1073741824), ra, fun v H1 f1 ra1 h0 h1 => ?_⟩
    have h1' : v < 2 := h1
    have el1 := f1 _ _ hne el
    rcases (by omega : v = 0 ∨ v = 1) with rfl | rfl
    · refine ⟨_, _, _, _, rfl, rfl, .of el1, rfl, ?_⟩
      exact q _ _ f1 ra1 (.inl rfl)
    · refine ⟨_, _, _, _, rfl, rfl, .of el1, rfl, ?_⟩
      exact q _ _ f1 ra1 (.inr rfl)
theorem cut_take {L : List Int} {j : Nat} (h : j ≤ L.length) : cutV (L.map V.int) none (some (j : Int)) = (L.take j).map V.int := by
  unfold cutV
  rw [HT.sIx_none, HT.sIx_nat, Nat.sub_zero, List.drop_zero, List.length_map, Nat.min_eq_left h, List.map_take]
theorem cut_drop {L : List Int} {j : Nat} (h : j ≤ L.length) : cutV (L.map V.int) (some (j : Int)) none = (L.drop j).map V.int := by
  unfold cutV
  rw [HT.sIx_none, HT.sIx_nat, List.length_map, Nat.min_eq_left h, List.map_drop]
  exact List.take_of_length_le (by rw [List.length_drop, List.length_map]; omega)
def sp_orderL (K : PySem.W.Frag) : Sp := fun vs H Q _ => ∃ (r : Addr) (m : Nat), vs = [.ref r, .int (m : Int)] ∧ m ≤ 100 ∧ RowAt K H r ∧ ∀ (l : Addr) (L : List Int) (H' : Hp), Off r H H' → RowAt K H' r → H l = none → H' l = some (.lst (L.map V.int)) → L.length = m → Q (.ref l) H'
theorem ok_law_order (T : Txt K mg) (G_law_taken : FnAt P w K mg base CX0 1 "_law_taken" ["_law_row", "_law_many"] (sp_taken K)) : FnAt P w K mg base CX0 2 "_law_order" ["_law_row", "_law_many"] (sp_orderL K) := by
  refine fn_body T.d_law_order sc_law_order (fun _ _ _ _ _ _ us hl => match us, hl with | [_, _], _ => rfl) ?_ (fun f cdv A outer s H vs Q E hr h => ?_)
  · rintro vs H Q E ⟨_, _, rfl, _⟩
    rfl
  · refine ⟨_, PSs.nox (pss_cons (ps_par (i := 2) (j := 3) rfl sc_law_order.nd rfl rfl (by decide) rfl rfl (pa_cons (pe_listRg rfl rfl T.b_list (prg_1 rfl T.b_range (pv 1))) (pa_cons (pe_lst pa_nil) pa_nil)) rfl)
    (pss_cons (ps_for PassesOwn.never rfl (pi_range1 rfl T.b_range (pa_cons (pv 1) pa_nil)) (pg_name (i := 4) sc_law_order.nd rfl (Or.inl rfl))
    (pss_cons (ps_set (i := 5) sc_law_order.nd rfl (Or.inl rfl) (pe_cf G_law_taken (hr.mono (by decide)) rfl pass00 (pa_cons (pv 0) (pa_cons (pe_callB call_len_seq rfl T.b_len (by decide +kernel) (pa_cons (pv 2) pa_nil)) pa_nil))))
    (pss_cons (ps_expr (pe_bm PySem.F.plainAttrs_list PySem.F.slot_list_append PySem.F.type_list_append mt_append (pv 3) (pa_cons (pe_ix ix_list (pv 2) (pv 5) (fun _ _ => rfl)) pa_nil)))
    (pss_one (ps_set (i := 2) sc_law_order.nd rfl (Or.inl rfl) (pe_op op_cat (pe_slice sl_list (pv 2) po_none (po_some (pv 5))) (pe_slice sl_list (pv 2) (po_some (pe_op op_add (pv 5) pe_int)) po_none)))))))
    (pss_one (ps_ret (pv 3))))), ?_⟩
    obtain ⟨r, m, rfl, hm, ra, q⟩ := h
    obtain ⟨rx, hrx⟩ := ra.lst
    refine ⟨_, rfl, m, rfl, ⟨by omega, by omega, by omega, by omega, by omega⟩, fun l0 hl0 => ?_⟩
    refine ⟨Nat.zero_le _, fun fd hfd => ?_⟩
    refine ⟨_, _, rfl, ?_⟩
    have s1 : Same H (upd (upd H l0 (.lst (rgV 0 m))) fd (.lst [])) := (same_new hl0).trans (same_new hfd)
    have el1 : (upd (upd H l0 (.lst (rgV 0 m))) fd (.lst [])) l0 = some (.lst (((List.range m).map fun i => ((i : Nat) : Int)).map V.int)) := by
      rw [same_new hfd _ _ upd_same]
      unfold rgV
      have e : ((m : Int) - 0).toNat = m := by omega
      rw [e, List.map_map]
      congr 2
      refine List.map_congr_left fun i _ => ?_
      show V.int (0 + (i : Int)) = V.int (i : Int)
      rw [Int.zero_add]
    have ef1 : (upd (upd H l0 (.lst (rgV 0 m))) fd (.lst [])) fd = some (.lst (([] : List Int).map V.int)) := upd_same
    have nfd : H fd = none := same_none (same_new hl0) hfd
    have hfr : fd ≠ r := fun z => by rw [z, hrx] at nfd; cases nfd
    have hlr : l0 ≠ r := fun z => by rw [z, hrx] at hl0; cases hl0
    have hlf : l0 ≠ fd := fun z => by rw [← z, upd_same] at hfd; cases hfd
    have ra1 := ra.same s1
    generalize (upd (upd H l0 (.lst (rgV 0 m))) fd (.lst [])) = H1 at s1 el1 ef1 ra1 ⊢
    refine ⟨_, rfl, ?_⟩
    refine ⟨_, rfl, by omega, by omega, ?_⟩
    refine for_it walk_range (fun i σ H2 => Off r H H2 ∧ RowAt K H2 r ∧ ∃ lf L Fd o4 o5, H2 lf = some (.lst (L.map V.int)) ∧ lf ≠ fd ∧ lf ≠ r ∧ L.length + i = m ∧ H2 fd = some (.lst (Fd.map V.int)) ∧ Fd.length = i ∧ σ = [some (.ref r), some (.int m), some (.ref lf), some (.ref fd), o4, o5])
      ⟨Off.of s1, ra1, l0, (List.range m).map fun i => ((i : Nat) : Int), [], none, none, el1, hlf, hlr, by simp, ef1, rfl, rfl⟩ (fun i σ H2 _ pp => trivial) (fun i x0 σ H2 H3 hi pp yy => ?_) (fun σ H2 pp => ?_)
    · obtain ⟨f2, ra2, lf, L, Fd, o4, o5, eL, hn1, hn2, hL, eF, hF, rfl⟩ := pp
      obtain ⟨rfl, rfl⟩ := yy
      have hi' : i < m := by omega
      refine ⟨_, rfl, ?_⟩
      refine ⟨_, rfl, ?_⟩
      refine ⟨_, _, rfl, .inl (.of eL), ?_⟩
      refine ⟨_, _, rfl, by rw [List.length_map]; omega, by rw [List.length_map]; omega, ra2, fun v H4 f4 ra4 h0 h1 => ?_⟩
      rw [List.length_map] at h1
      have eL4 := f4 _ _ hn2 eL
      have eF4 := f4 _ _ hfr eF
      obtain ⟨j, rfl⟩ := Int.eq_ofNat_of_zero_le h0
      have hj : j < L.length := by omega
      refine ⟨_, rfl, ?_⟩
      refine ⟨.inl ⟨rfl, _, .of eF4⟩, ?_⟩
      refine ⟨_, rfl, ?_⟩
      refine ⟨_, rfl, ?_⟩
      refine ⟨_, _, _, _, rfl, rfl, .of eL4, atI_ints (by omega) (by omega), ?_⟩
      refine ⟨fd, _, _, rfl, rfl, eF4, by rw [List.length_map, sizeLine_is]; omega, ?_⟩
      have f5 : Off r H (upd H4 fd (.lst (Fd.map V.int ++ [.int (gi L j)]))) := (f2.trans f4).put nfd
      have eF5 : (upd H4 fd (.lst (Fd.map V.int ++ [.int (gi L j)]))) fd = some (.lst ((Fd ++ [gi L j]).map V.int)) := by rw [upd_same, List.map_append]; rfl
      have eL5 : (upd H4 fd (.lst (Fd.map V.int ++ [.int (gi L j)]))) lf = some (.lst (L.map V.int)) := by rw [upd_ne hn1]; exact eL4
      have ra5 : RowAt K (upd H4 fd (.lst (Fd.map V.int ++ [.int (gi L j)]))) r := ra4.upd (nf_lst eF4) hfr
      generalize (upd H4 fd (.lst (Fd.map V.int ++ [.int (gi L j)]))) = H5 at f5 eF5 eL5 ra5 ⊢
      refine ⟨_, rfl, ?_⟩
      refine ⟨_, rfl, ?_⟩
      refine ⟨_, rfl, ?_⟩
      refine ⟨_, _, rfl, .of eL5, fun c1 hc1 => ?_⟩
      have u1 : Same H5 (upd H5 c1 (.lst (cutV (L.map V.int) none (some (j : Int))))) := same_new hc1
      have ec1 : (upd H5 c1 (.lst (cutV (L.map V.int) none (some (j : Int))))) c1 = some (.lst ((L.take j).map V.int)) := by rw [upd_same, cut_take (by omega)]
      have eL6 := u1 _ _ eL5
      have eF6 := u1 _ _ eF5
      generalize (upd H5 c1 (.lst (cutV (L.map V.int) none (some (j : Int))))) = H6 at u1 ec1 eL6 eF6 ⊢
      refine ⟨_, rfl, ?_⟩
      refine ⟨_, rfl, ?_⟩
      refine ⟨_, _, rfl, rfl, ?_⟩
      refine ⟨_, rfl, ?_⟩
      refine ⟨_, _, rfl, .of eL6, fun c2 hc2 => ?_⟩
      show rCat _ _ (upd H6 c2 (.lst (cutV (L.map V.int) (some ((j + 1 : Nat) : Int)) none))) _
      have u2 : Same H6 (upd H6 c2 (.lst (cutV (L.map V.int) (some ((j + 1 : Nat) : Int)) none))) := same_new hc2
      have ec2 : (upd H6 c2 (.lst (cutV (L.map V.int) (some ((j + 1 : Nat) : Int)) none))) c2 = some (.lst ((L.drop (j + 1)).map V.int)) := by rw [upd_same, cut_drop (by omega)]
      generalize (upd H6 c2 (.lst (cutV (L.map V.int) (some ((j + 1 : Nat) : Int)) none))) = H7 at u2 ec2 ⊢
      have hsz : ((L.take j).map V.int).length + ((L.drop (j + 1)).map V.int).length ≤ sizeLine := by
        rw [List.length_map, List.length_map, List.length_take, List.length_drop, sizeLine_is]
        omega
      refine ⟨_, _, _, _, rfl, rfl, u2 _ _ ec1, ec2, hsz, fun c3 hc3 => ?_⟩
      have u3 : Same H7 (upd H7 c3 (.lst ((L.take j).map V.int ++ (L.drop (j + 1)).map V.int))) := same_new hc3
      have u123 := u1.trans (u2.trans u3)
      have nc3 : c3 ≠ r := fun z => by
        obtain ⟨ys, hys⟩ := ra5.lst
        rw [z, (u1.trans u2) _ _ hys] at hc3
        cases hc3
      have nc3f : c3 ≠ fd := fun z => by
        rw [z, (u1.trans u2) _ _ eF5] at hc3
        cases hc3
      exact ⟨f5.trans (Off.of u123), ra5.same u123, c3, L.take j ++ L.drop (j + 1), Fd ++ [gi L j], _, _, by rw [upd_same, List.map_append], nc3f, nc3, by rw [List.length_append, List.length_take, List.length_drop]; omega, u123 _ _ eF5, by rw [List.length_append]; show Fd.length + 1 = i + 1; omega, rfl⟩
    · obtain ⟨f2, ra2, lf, L, Fd, o4, o5, eL, hn1, hn2, hL, eF, hF, rfl⟩ := pp
      refine ⟨_, rfl, ?_⟩
      exact q fd Fd _ f2 ra2 nfd eF (by omega)
end
end K4
set_option Elab.async false
set_option linter.all false
set_option maxRecDepth 100000
set_option maxHeartbeats 400000
/-! the draws: rule, kinds -/
namespace K4
open PySem PySem.Spec PyProof.Rows L2 K4R
def ruleM (p0 p1 o0 o1 : Int) : List Int := if p0 > p1 ∨ (p0 = p1 ∧ o0 > o1) then [p1, p0, o1, o0] else [p0, p1, o0, o1]
section
variable {P : Program} {w : World} {K : PySem.W.Frag} {mg : Str → Option Value} {base : Heap}
def sp_rule : Sp := fun vs H Q _ => ∃ (a b : Addr) (p0 p1 o0 o1 : Int), vs = [.ref a, .ref b] ∧ IT H a [p0, p1] ∧ IT H b [o0, o1] ∧ ∀ (p : Addr) (H' : Hp), Same H H' → H p = none → IT H' p (ruleM p0 p1 o0 o1) → Q (.ref p) H'
theorem ok_law_rule (T : Txt K mg) : FnAt P w K mg base CX0 1 "_law_rule" ["_law_pair", "_law_other"] sp_rule := by
  refine fn_body T.d_law_rule sc_law_rule (fun _ _ _ _ _ _ us hl => match us, hl with | [_, _], _ => rfl) ?_ (fun f cdv A outer s H vs Q E hr h => ?_)
  · rintro vs H Q E ⟨_, _, _, _, _, _, rfl, _⟩
    rfl
  · refine ⟨_, PSs.nox (pss_cons (ps_par (i := 2) (j := 3) rfl sc_law_rule.nd rfl rfl (by decide) rfl rfl (pa_cons (pe_tup (pa_cons (pe_ix ix_tup (pv 0) pe_int (fun _ _ => rfl)) (pa_cons (pe_ix ix_tup (pv 0) pe_int (fun _ _ => rfl)) pa_nil))) (pa_cons (pe_tup (pa_cons (pe_ix ix_tup (pv 1) pe_int (fun _ _ => rfl)) (pa_cons (pe_ix ix_tup (pv 1) pe_int (fun _ _ => rfl)) pa_nil))) pa_nil)) rfl)
    (pss_cons (ps_if (PW.pt (pw_or (pt_cmpR op_gt (pe_ix ix_tup (pv 2) pe_int (fun _ _ => rfl)) (pe_ix ix_tup (pv 2) pe_int (fun _ _ => rfl)) (nomark _)) (pw_or1 (PW.pt (pw_and (pt_cmpR op_eq (pe_ix ix_tup (pv 2) pe_int (fun _ _ => rfl)) (pe_ix ix_tup (pv 2) pe_int (fun _ _ => rfl)) (nomark _)) (pw_and1 (pt_cmpR op_gt (pe_ix ix_tup (pv 3) pe_int (fun _ _ => rfl)) (pe_ix ix_tup (pv 3) pe_int (fun _ _ => rfl)) (nomark _)))))))) (pss_one (ps_par (i := 2) (j := 3) rfl sc_law_rule.nd rfl rfl (by decide) rfl rfl (pa_cons (pe_tup (pa_cons (pe_ix ix_tup (pv 2) pe_int (fun _ _ => rfl)) (pa_cons (pe_ix ix_tup (pv 2) pe_int (fun _ _ => rfl)) pa_nil))) (pa_cons (pe_tup (pa_cons (pe_ix ix_tup (pv 3) pe_int (fun _ _ => rfl)) (pa_cons (pe_ix ix_tup (pv 3) pe_int (fun _ _ => rfl)) pa_nil))) pa_nil)) rfl)) pss_nil)
    (pss_one (ps_ret (pe_op op_catA (pv 2) (pv 3)))))), ?_⟩
    obtain ⟨a, b, p0, p1, o0, o1, rfl, ha, hb, q⟩ := h
    have ha' : H a = some (.tup [.int p0, .int p1]) := ha
    have hb' : H b = some (.tup [.int o0, .int o1]) := hb
    have fin : ∀ (c d : Addr) (x y z u : Int) (H5 : Hp), Same H H5 → IT H5 c [x, y] → IT H5 d [z, u] → ruleM p0 p1 o0 o1 = [x, y, z, u] → tRet (tOp (rCatA K) (tVar 2) (tVar 3)) { nx := fun _ H' => Q .non H', rt := Q } [some (.ref a), some (.ref b), some (.ref c), some (.ref d)] H5 := fun c d x y z u H5 s5 hc hd e => by
      refine ⟨_, rfl, ?_⟩
      refine ⟨_, rfl, ?_⟩
      refine ⟨_, _, _, _, rfl, rfl, .of hc, .of hd, by show 4 ≤ sizeLine; decide, fun z => (nomatch z), fun _ z => (nomatch z), fun _ _ p hp => ?_⟩
      refine q p _ (s5.trans (same_new hp)) (same_none s5 hp) ?_
      rw [e]
      exact upd_same
    refine ⟨_, rfl, ?_⟩
    refine ⟨_, _, _, _, rfl, rfl, .of ha', rfl, ?_⟩
    refine ⟨_, rfl, ?_⟩
    refine ⟨_, _, _, _, rfl, rfl, .of ha', rfl, ?_⟩
    refine ⟨by show 2 ≤ sizeLine; decide, fun c hc => ?_⟩
    have s1 : Same H (upd H c (.tup [.int p0, .int p1])) := same_new hc
    have ec : (upd H c (.tup [.int p0, .int p1])) c = some (.tup [.int p0, .int p1]) := upd_same
    show tCons _ _ _ (upd H c (.tup [.int p0, .int p1])) _
    generalize (upd H c (.tup [.int p0, .int p1])) = H1 at s1 ec ⊢
    refine ⟨_, rfl, ?_⟩
    refine ⟨_, _, _, _, rfl, rfl, .of (s1 _ _ hb'), rfl, ?_⟩
    refine ⟨_, rfl, ?_⟩
    refine ⟨_, _, _, _, rfl, rfl, .of (s1 _ _ hb'), rfl, ?_⟩
    refine ⟨by show 2 ≤ sizeLine; decide, fun d hd => ?_⟩
    have s2 : Same H1 (upd H1 d (.tup [.int o0, .int o1])) := same_new hd
    have ed : (upd H1 d (.tup [.int o0, .int o1])) d = some (.tup [.int o0, .int o1]) := upd_same
    refine ⟨_, _, rfl, ?_⟩
    show tSeq _ _ _ _ (upd H1 d (.tup [.int o0, .int o1]))
    have s3 := s1.trans s2
    have ec2 := s2 _ _ ec
    generalize (upd H1 d (.tup [.int o0, .int o1])) = H2 at s2 ed s3 ec2 ⊢
    have swap : (p0 > p1 ∨ (p0 = p1 ∧ o0 > o1)) → tSeq (tPar 2 3 (tCons (tTup (tCons (tOp (rIxT K) (tVar 2) (tC (.int 1))) (tCons (tOp (rIxT K) (tVar 2) (tC (.int 0))) tNil))) (tCons (tTup (tCons (tOp (rIxT K) (tVar 3) (tC (.int 1))) (tCons (tOp (rIxT K) (tVar 3) (tC (.int 0))) tNil))) tNil)))
        (tRet (tOp (rCatA K) (tVar 2) (tVar 3))) { nx := fun _ H' => Q .non H', rt := Q } [some (.ref a), some (.ref b), some (.ref c), some (.ref d)] H2 := fun hsw => by
      refine ⟨_, rfl, ?_⟩
      refine ⟨_, _, _, _, rfl, rfl, .of ec2, rfl, ?_⟩
      refine ⟨_, rfl, ?_⟩
      refine ⟨_, _, _, _, rfl, rfl, .of ec2, rfl, ?_⟩
      refine ⟨by show 2 ≤ sizeLine; decide, fun e he => ?_⟩
      have t1 : Same H2 (upd H2 e (.tup [.int p1, .int p0])) := same_new he
      have ee : IT (upd H2 e (.tup [.int p1, .int p0])) e [p1, p0] := upd_same
      show tCons _ _ _ (upd H2 e (.tup [.int p1, .int p0])) _
      generalize (upd H2 e (.tup [.int p1, .int p0])) = H3 at t1 ee ⊢
      refine ⟨_, rfl, ?_⟩
      refine ⟨_, _, _, _, rfl, rfl, .of (t1 _ _ ed), rfl, ?_⟩
      refine ⟨_, rfl, ?_⟩
      refine ⟨_, _, _, _, rfl, rfl, .of (t1 _ _ ed), rfl, ?_⟩
      refine ⟨by show 2 ≤ sizeLine; decide, fun g hg => ?_⟩
      have t2 : Same H3 (upd H3 g (.tup [.int o1, .int o0])) := same_new hg
      have eg : IT (upd H3 g (.tup [.int o1, .int o0])) g [o1, o0] := upd_same
      refine ⟨_, _, rfl, ?_⟩
      exact fin e g p1 p0 o1 o0 _ (s3.trans (t1.trans t2)) (IT.kt (KT.of t2) ee) eg (if_pos hsw)
    refine ⟨_, rfl, ?_⟩
    refine ⟨_, _, _, _, rfl, rfl, .of ec2, rfl, ?_⟩
    refine ⟨_, rfl, ?_⟩
    refine ⟨_, _, _, _, rfl, rfl, .of ec2, rfl, ?_⟩
    refine ⟨_, _, rfl, rfl, ?_⟩
    refine ⟨_, rfl, ?_⟩
    refine ifB (fun e1 => ?_) (fun e1 => ?_)
    · have e1' : p1 < p0 := of_decide_eq_true e1
      exact swap (.inl e1')
    · have e1' : ¬ p1 < p0 := of_decide_eq_false e1
      refine ⟨_, rfl, ?_⟩
      refine ⟨_, _, _, _, rfl, rfl, .of ec2, rfl, ?_⟩
      refine ⟨_, rfl, ?_⟩
      refine ⟨_, _, _, _, rfl, rfl, .of ec2, rfl, ?_⟩
      refine ⟨rfl, ?_⟩
      refine ⟨_, rfl, ?_⟩
      refine ifB (fun e2 => ?_) (fun e2 => ?_)
      · have e2' : p0 = p1 := by simpa using e2
        refine ⟨_, rfl, ?_⟩
        refine ⟨_, _, _, _, rfl, rfl, .of ed, rfl, ?_⟩
        refine ⟨_, rfl, ?_⟩
        refine ⟨_, _, _, _, rfl, rfl, .of ed, rfl, ?_⟩
        refine ⟨_, _, rfl, rfl, ?_⟩
        refine ⟨_, rfl, ?_⟩
        refine ifB (fun e3 => ?_) (fun e3 => ?_)
        · exact swap (.inr ⟨e2', of_decide_eq_true e3⟩)
        · have e3' : ¬ o1 < o0 := of_decide_eq_false e3
          exact fin c d p0 p1 o0 o1 H2 s3 ec2 ed (if_neg (by rintro (h | ⟨_, h⟩) <;> omega))
      · have e2' : ¬ p0 = p1 := by simpa using e2
        refine ifF ?_
        exact fin c d p0 p1 o0 o1 H2 s3 ec2 ed (if_neg (by rintro (h | ⟨h, _⟩) <;> omega))
/-- within a comprehension that draws -/
def PvR (K : PySem.W.Frag) (r : Addr) (H1 : Hp) (D : Addr) (R : Nat → List V → Hp → Prop) (i : Nat) (H : Hp) : Prop := ∃ acc, H D = some (.lst acc) ∧ acc.length ≤ i ∧ Off r H1 H ∧ RowAt K H r ∧ R i acc H
theorem PvR.zero {r : Addr} {H1 : Hp} {D : Addr} {R : Nat → List V → Hp → Prop} (st : StR R) (ra : RowAt K H1 r) (hD : H1 D = none) (h0 : R 0 [] H1) : PvR K r H1 D R 0 (upd H1 D (.lst [])) :=
  ⟨[], upd_same, Nat.le_refl _, Off.of (same_new hD), ra.same (same_new hD), st _ _ _ _ (KT.of (same_new hD)) h0⟩
theorem PvR.put {r : Addr} {H1 H H4 : Hp} {D : Addr} {R : Nat → List V → Hp → Prop} {i : Nat} {acc : List V} {y : V} (st : StR R) (ra1 : RowAt K H1 r) (hD : H1 D = none) (eD : H D = some (.lst acc)) (hl : acc.length ≤ i) (f1 : Off r H1 H) (f4 : Off r H H4) (ra : RowAt K H4 r) (hr : R (i + 1) (acc ++ [y]) H4) (hi : i < 10000000) :
    ∃ acc, H4 D = some (.lst acc) ∧ acc.length < sizeLine ∧ PvR K r H1 D R (i + 1) (upd H4 D (.lst (acc ++ [y]))) := by
  obtain ⟨ys, hys⟩ := ra1.lst
  have hDr : D ≠ r := fun z => by
    rw [z, hys] at hD
    cases hD
  have e4 := f4 _ _ hDr eD
  exact ⟨acc, e4, by rw [sizeLine_is]; omega, acc ++ [y], upd_same, by rw [List.length_append]; show acc.length + 1 ≤ i + 1; omega, (f1.trans f4).put hD, ra.upd (nf_lst e4) hDr, st _ _ _ _ (KT.lst e4) hr⟩
theorem PvR.skip {r : Addr} {H1 H H4 : Hp} {D : Addr} {R : Nat → List V → Hp → Prop} {i : Nat} {acc : List V} (ra1 : RowAt K H1 r) (hD : H1 D = none) (eD : H D = some (.lst acc)) (hl : acc.length ≤ i) (f1 : Off r H1 H) (f4 : Off r H H4) (ra : RowAt K H4 r) (hr : R (i + 1) acc H4) : PvR K r H1 D R (i + 1) H4 := by
  obtain ⟨ys, hys⟩ := ra1.lst
  have hDr : D ≠ r := fun z => by
    rw [z, hys] at hD
    cases hD
  exact ⟨acc, f4 _ _ hDr eD, by omega, f1.trans f4, ra, hr⟩
def sp_kinds (K : PySem.W.Frag) : Sp := fun vs H Q _ => ∃ (r : Addr) (m n : Int), vs = [.ref r, .int m, .int n] ∧ 0 ≤ m ∧ m ≤ 100 ∧ 0 < n ∧ n < 1000 ∧ RowAt K H r ∧ ∀ (p : Addr) (L : List Int) (H' : Hp), Off r H H' → RowAt K H' r → H p = none → IT H' p L → ((L.length : Nat) : Int) = m → InR n L → Q (.ref p) H'
theorem ok_law_kinds (T : Txt K mg) (G_law_taken : FnAt P w K mg base CX0 1 "_law_taken" ["_law_row", "_law_many"] (sp_taken K)) : FnAt P w K mg base CX0 2 "_law_kinds" ["_law_row", "_law_many", "_law_kinds_here"] (sp_kinds K) := by
  refine fn_body T.d_law_kinds sc_law_kinds (fun _ _ _ _ _ _ us hl => match us, hl with | [_, _, _], _ => rfl) ?_ (fun f cdv A outer s H vs Q E hr h => ?_)
  · rintro vs H Q E ⟨_, _, _, rfl, _⟩
    rfl
  · refine ⟨_, PSs.nox (pss_one (ps_ret (pe_callTy call_tuple_of rfl T.b_tuple (by decide +kernel) (pa_cons (pe_lc (own := [("_law_k", 3)]) rfl sc_law_kinds.nd (pi_range1 rfl T.b_range (pa_cons (pv 1) pa_nil)) (blkOk_by (N := N_law_kinds) (sc := defScope s_law_kinds) (by decide +kernel)) (fun _ _ _ _ _ => (pg_name (i := 3) sc_law_kinds.nd rfl (Or.inl rfl))) (fun _ _ _ _ _ => pts_nil) (fun _ _ _ _ _ => (pe_cf G_law_taken (hr.mono (by decide)) rfl pass00 (pa_cons (pv 0) (pa_cons (pv 2) pa_nil))))) pa_nil)))), ?_⟩
    obtain ⟨r, m, n, rfl, hm0, hm1, hn0, hn1, ra, q⟩ := h
    obtain ⟨ys, hys⟩ := ra.lst
    refine ⟨_, rfl, ?_⟩
    refine ⟨_, rfl, by omega, by omega, ?_⟩
    intro D hD
    have st : StR (fun i acc _ => ∃ L : List Int, acc = L.map V.int ∧ L.length = i ∧ InR n L) := fun _ _ _ _ _ h => h
    refine lc_it walk_range (PvR K r H D (fun i acc _ => ∃ L : List Int, acc = L.map V.int ∧ L.length = i ∧ InR n L)) (PvR.zero st ra hD ⟨[], rfl, rfl, fun x hx => by simp at hx⟩) (fun _ _ _ _ => trivial) (fun z xx H2 H3 hz p yy => ?_) (fun H7 p => ?_)
    · obtain ⟨acc, eD, hl, f1, ra1, L, rfl, hL, hin⟩ := p
      obtain ⟨rfl, rfl⟩ := yy
      refine ⟨rfl, ?_⟩
      refine ⟨_, rfl, ?_⟩
      refine ⟨_, rfl, ?_⟩
      refine ⟨_, _, rfl, hn0, by omega, ra1, fun v H4 f4 ra4 h0 h1 => ?_⟩
      refine PvR.put st ra hD eD hl f1 f4 ra4 ⟨L ++ [v], by rw [List.map_append]; rfl, by rw [List.length_append, hL]; rfl, fun x hx => ?_⟩ (by omega)
      rcases List.mem_append.mp hx with hx | hx
      · exact hin x hx
      · rw [List.mem_singleton.mp hx]
        exact ⟨h0, h1⟩
    · obtain ⟨acc, eD, hl, f1, ra1, L, rfl, hL, hin⟩ := p
      refine ⟨_, _, rfl, .inl ⟨.of eD, fun p hp => ?_⟩⟩
      have s1 : Same H7 (upd H7 p (.tup (L.map V.int))) := same_new hp
      have np : H p = none := f1.none (by obtain ⟨zs, hzs⟩ := ra1.lst; rw [hzs]; exact fun z => by cases z) hp
      exact q p L _ (f1.trans (Off.of s1)) (ra1.same s1) np upd_same (by omega) hin
end
end K4
set_option Elab.async false
set_option linter.all false
set_option maxRecDepth 100000
set_option maxHeartbeats 400000
/-! the draws: tables -/
namespace K4
open PySem PySem.Spec PyProof.Rows L2 K4R
theorem leI_trans (a b c : List Int) (h : leI a b = true) (g : leI b c = true) : leI a c = true := decide_eq_true (List.le_trans (of_decide_eq_true h) (of_decide_eq_true g))
theorem leI_total (a b : List Int) : (leI a b || leI b a) = true := by
  rcases List.le_total a b with h | h
  · rw [show leI a b = true from decide_eq_true h]; rfl
  · rw [show leI b a = true from decide_eq_true h, Bool.or_true]
theorem rising_sort {ks : List (List Int)} (nd : ks.Nodup) : Rising (ks.mergeSort leI) := fun i k k' h1 h2 => by
  have p := List.pairwise_mergeSort leI_trans leI_total ks
  have nd2 : (ks.mergeSort leI).Nodup := (List.mergeSort_perm ks leI).nodup_iff.mpr nd
  generalize ks.mergeSort leI = S at p nd2 h1 h2
  obtain ⟨hi, e1⟩ := List.getElem?_eq_some_iff.mp h1
  obtain ⟨hj, e2⟩ := List.getElem?_eq_some_iff.mp h2
  have q1 := List.pairwise_iff_getElem.mp p i (i + 1) hi hj (by omega)
  have q2 := List.pairwise_iff_getElem.mp nd2 i (i + 1) hi hj (by omega)
  rw [e1, e2] at q1 q2
  have le : k ≤ k' := of_decide_eq_true q1
  exact List.not_le.mp fun h => q2 (List.le_antisymm le h)
theorem putU_nodup {l : List (List Int)} {k : List Int} (h : l.Nodup) : (putU l k).Nodup := by
  unfold putU
  split
  · exact h
  · rename_i hn
    rw [List.nodup_append]
    refine ⟨h, by simp, ?_⟩
    intro a ha b hb e
    rw [List.mem_singleton.mp hb] at e
    exact hn (e ▸ ha)
theorem ruleM_mem (p0 p1 o0 o1 : Int) : ∃ a b c d, ruleM p0 p1 o0 o1 = [a, b, c, d] ∧ (∀ n, InR n [p0, p1] → InR n [o0, o1] → InR n [a, b, c, d]) ∧ a ≤ b ∧ (a = b → c ≤ d) ∧ ((a = c ∧ b = d) → p0 + p1 = o0 + o1) := by
  unfold ruleM
  split
  · refine ⟨p1, p0, o1, o0, rfl, fun n h1 h2 x hx => ?_, by omega, by omega, by omega⟩
    have := h1 p0 (by simp)
    have := h1 p1 (by simp)
    have := h2 o0 (by simp)
    have := h2 o1 (by simp)
    simp only [List.mem_cons, List.not_mem_nil, or_false] at hx
    rcases hx with rfl | rfl | rfl | rfl <;> assumption
  · refine ⟨p0, p1, o0, o1, rfl, fun n h1 h2 x hx => ?_, by omega, by omega, by omega⟩
    have := h1 p0 (by simp)
    have := h1 p1 (by simp)
    have := h2 o0 (by simp)
    have := h2 o1 (by simp)
    simp only [List.mem_cons, List.not_mem_nil, or_false] at hx
    rcases hx with rfl | rfl | rfl | rfl <;> assumption
theorem ruleM_ne {x y z u : Int} {f : Int → Int} (h : f z + f u < f x + f y) {ka kb kc kd : Int} (e : ruleM x y z u = [ka, kb, kc, kd]) : ¬ (ka = kc ∧ kb = kd) := by
  rintro ⟨h1, h2⟩
  unfold ruleM at e
  split at e
  · simp only [List.cons.injEq, and_true] at e
    obtain ⟨e1, e2, e3, e4⟩ := e
    have q1 : y = u := by omega
    have q2 : x = z := by omega
    rw [q1, q2] at h
    omega
  · simp only [List.cons.injEq, and_true] at e
    obtain ⟨e1, e2, e3, e4⟩ := e
    have q1 : x = z := by omega
    have q2 : y = u := by omega
    rw [q1, q2] at h
    omega
section
variable {P : Program} {w : World} {K : PySem.W.Frag} {mg : Str → Option Value} {base : Heap}
/-- (taken, taken) -/
def pairT (K : PySem.W.Frag) : TE := tTup (tCons (tCallF (sp_taken K) (fun _ _ _ => False) (tCons (tVar 0) (tCons (tVar 2) tNil))) (tCons (tCallF (sp_taken K) (fun _ _ _ => False) (tCons (tVar 0) (tCons (tVar 2) tNil))) tNil))
theorem pair_ok {σ : L2.St} {H : Hp} {Q : VK} {r : Addr} {m : Int} (h0 : σ[0]? = some (some (.ref r))) (h2 : σ[2]? = some (some (.int m))) (hm : 0 < m) (hm2 : m < 1000) (ra : RowAt K H r)
    (q : ∀ (p : Addr) (x y : Int) (H' : Hp), Off r H H' → RowAt K H' r → H p = none → IT H' p [x, y] → InR m [x, y] → Q (.ref p) H') : pairT K σ H Q := by
  refine ⟨_, h0, ?_⟩
  refine ⟨_, h2, ?_⟩
  refine ⟨_, _, rfl, hm, by omega, ra, fun v H1 f1 ra1 v0 v1 => ?_⟩
  refine ⟨_, h0, ?_⟩
  refine ⟨_, h2, ?_⟩
  refine ⟨_, _, rfl, hm, by omega, ra1, fun u H2 f2 ra2 u0 u1 => ?_⟩
  refine ⟨by show 2 ≤ sizeLine; decide, fun p hp => ?_⟩
  have f3 := f1.trans f2
  have np : H p = none := f3.none (by obtain ⟨zs, hzs⟩ := ra2.lst; rw [hzs]; exact fun z => by cases z) hp
  refine q p v u _ (f3.put np) (ra2.same (same_new hp)) np upd_same fun x hx => ?_
  simp only [List.mem_cons, List.not_mem_nil, or_false] at hx
  rcases hx with rfl | rfl
  · exact ⟨v0, v1⟩
  · exact ⟨u0, u1⟩
theorem first_at {t : Int} : ∀ {L : List Int}, t ∈ L → ∃ j : Nat, L[j]? = some t ∧ ∀ (i : Nat) (z : Int), i < j → L[i]? = some z → ¬ z = t
  | [], h => by simp at h
  | x :: L, h => by
    by_cases e : x = t
    · exact ⟨0, by rw [e]; rfl, fun i z hi => by omega⟩
    · obtain ⟨j, h1, h2⟩ := first_at ((List.mem_cons.mp h).resolve_left fun z => e z.symm)
      refine ⟨j + 1, h1, fun i z hi hz => ?_⟩
      cases i with
      | zero =>
        have : x = z := Option.some.inj hz
        rw [← this]
        exact e
      | succ i => exact h2 i z (by omega) hz
theorem flat_ints (L : List Int) : (L.map V.int).all flatV = true := by
  rw [List.all_eq_true]
  intro z hz
  obtain ⟨i, _, rfl⟩ := List.mem_map.mp hz
  rfl
theorem idx_ok {H : Hp} {lo : Addr} {L : List Int} {t : Int} {Q : VK} (el : H lo = some (.lst (L.map V.int))) (ht : t ∈ L) (q : ∀ j : Nat, j < L.length → Q (.int (j : Nat)) H) : rIndex K (.ref lo) [.int t] H Q := by
  obtain ⟨j, h1, h2⟩ := first_at ht
  refine ⟨lo, L.map V.int, .int t, j, .int t, rfl, rfl, .of el, rfl, flat_ints L, by rw [List.getElem?_map, h1]; rfl, beq_self_eq_true t, fun i z hi hz => ?_, q j (List.getElem?_eq_some_iff.mp h1).1⟩
  rw [List.getElem?_map] at hz
  obtain ⟨y, hy, rfl⟩ := Option.map_eq_some_iff.mp hz
  exact beq_eq_false_iff_ne.mpr (h2 i y hi hy)
theorem gi_mem {L : List Int} {i : Int} (h0 : 0 ≤ i) (h1 : i < L.length) : gi L i ∈ L := by
  obtain ⟨j, rfl⟩ := Int.eq_ofNat_of_zero_le h0
  have hj : j < L.length := by omega
  unfold gi
  rw [Int.toNat_natCast, List.getD_eq_getElem?_getD, List.getElem?_eq_getElem hj]
  exact List.getElem_mem hj
/-- order[pair[0]] + order[pair[1]] -/
def sumT (K : PySem.W.Frag) (o q : Nat) : TE := tOp (rI0 fun i j => .int (i + j)) (tOp (rIxL K) (tVar o) (tOp (rIxT K) (tVar q) (tC (.int 0)))) (tOp (rIxL K) (tVar o) (tOp (rIxT K) (tVar q) (tC (.int 1))))
theorem sum_ok {σ : L2.St} {H : Hp} {Q : VK} {o p : Nat} {lo a : Addr} {L : List Int} {m x y : Int} (ho : σ[o]? = some (some (.ref lo))) (hp : σ[p]? = some (some (.ref a))) (el : H lo = some (.lst (L.map V.int))) (hL : (L.length : Int) = m) (ia : IT H a [x, y]) (hin : InR m [x, y]) (q : Q (.int (gi L x + gi L y)) H) : sumT K o p σ H Q := by
  have hx := hin x (by simp)
  have hy := hin y (by simp)
  have ia' : H a = some (.tup [.int x, .int y]) := ia
  refine ⟨_, ho, ?_⟩
  refine ⟨_, hp, ?_⟩
  refine ⟨_, _, _, _, rfl, rfl, .of ia', rfl, ?_⟩
  refine ⟨_, _, _, _, rfl, rfl, .of el, atI_ints (by omega) (by omega), ?_⟩
  refine ⟨_, ho, ?_⟩
  refine ⟨_, hp, ?_⟩
  refine ⟨_, _, _, _, rfl, rfl, .of ia', rfl, ?_⟩
  refine ⟨_, _, _, _, rfl, rfl, .of el, atI_ints (by omega) (by omega), ?_⟩
  refine ⟨_, _, rfl, rfl, ?_⟩
  exact q
/-- within a turn: the two pairs -/
def TabM (K : PySem.W.Frag) (H : Hp) (r dr lo : Addr) (l : List (List Int × V)) (L : List Int) (m : Int) (sh : Addr → Addr → Option V → Option V → L2.St) : L2.St → Hp → Prop := fun σ H4 =>
  Off r H H4 ∧ RowAt K H4 r ∧ H4 dr = some (.dT (dI l)) ∧ H4 lo = some (.lst (L.map V.int)) ∧ ∃ a b x y z u o9 o10, IT H4 a [x, y] ∧ IT H4 b [z, u] ∧ InR m [x, y] ∧ InR m [z, u] ∧ σ = sh a b o9 o10
theorem TabM.same {H H4 H5 : Hp} {r dr lo a b : Addr} {l : List (List Int × V)} {L : List Int} {m x y z u : Int} {sh : Addr → Addr → Option V → Option V → L2.St} {o9 o10 : Option V} (f : Off r H H4) (ra : RowAt K H4 r) (ed : H4 dr = some (.dT (dI l))) (el : H4 lo = some (.lst (L.map V.int))) (s : Same H4 H5)
    (ia : IT H5 a [x, y]) (ib : IT H5 b [z, u]) (h1 : InR m [x, y]) (h2 : InR m [z, u]) : TabM K H r dr lo l L m sh (sh a b o9 o10) H5 := ⟨f.trans (Off.of s), ra.same s, s _ _ ed, s _ _ el, a, b, x, y, z, u, o9, o10, ia, ib, h1, h2, rfl⟩
theorem inR2 {m x y : Int} (hx : 0 ≤ x ∧ x < m) (hy : 0 ≤ y ∧ y < m) : InR m [x, y] := fun z hz => by
  simp only [List.mem_cons, List.not_mem_nil, or_false] at hz
  rcases hz with rfl | rfl <;> assumption
def sp_table (K : PySem.W.Frag) : Sp := fun vs H Q _ => ∃ (r : Addr), vs = [.ref r, .int 4] ∧ RowAt K H r ∧ ∀ (t : Addr) (m : Int) (ks : List (List Int)) (H' : Hp), Off r H H' → RowAt K H' r → H t = none → TabAt H' t m ks → TabOk m ks → m ≤ 4 → ks.length ≤ 5 → Q (.ref t) H'
/-- the end of both: (many, tuple(sorted(rules.keys()))) -/
def endT (K : PySem.W.Frag) (d : Nat) : TE := tTup (tCons (tVar 2) (tCons (tCB (fun xs H Q => ∃ p ys, xs = [.ref p] ∧ ((SqL K H p ys ∧ ∀ l, H l = none → Q (.ref l) (upd H l (.tup ys))) ∨ (SqT K H p ys ∧ Q (.ref p) H))) (tCons (tCB rSortKeysT (tCons (tBM0 K "dict" rKeysT (tVar d)) tNil)) tNil)) tNil))
theorem end_ok {σ : L2.St} {H : Hp} {Q : VK} {d : Nat} {dr : Addr} {m : Int} {l : List (List Int × V)} (h2 : σ[2]? = some (some (.int m))) (hd : σ[d]? = some (some (.ref dr))) (ed : H dr = some (.dT (dI l))) (hne : ∀ k ∈ l.map (·.1), k ≠ []) (q : ∀ (t : Addr) (H' : Hp), Same H H' → H t = none → TabAt H' t m ((l.map (·.1)).mergeSort leI) → Q (.ref t) H') : endT K d σ H Q := by
  refine ⟨_, h2, ?_⟩
  refine ⟨_, hd, ?_⟩
  refine ⟨.inr (.inr (.inl ⟨rfl, .inr ⟨_, ed⟩⟩)), ?_⟩
  refine ⟨_, _, rfl, rfl, ed, fun v hv => ?_⟩
  have s1 : Same H (upd H v (keysO v dr)) := same_new hv
  refine ⟨_, _, _, _, rfl, upd_same, s1 _ _ ed, keysI_dI l, hne, fun p bs hp hb => ?_⟩
  have s2 : Same _ (upd (upd H v (keysO v dr)) p (.lst (bs.map V.ref))) := same_new hp
  have s3 := s1.trans s2
  have ep : (upd (upd H v (keysO v dr)) p (.lst (bs.map V.ref))) p = some (.lst (bs.map V.ref)) := upd_same
  have ib := ITs.kt (KT.of s2) hb
  generalize (upd (upd H v (keysO v dr)) p (.lst (bs.map V.ref))) = H1 at s2 s3 ep ib ⊢
  refine ⟨_, _, rfl, .inl ⟨.of ep, fun c hc => ?_⟩⟩
  have s4 : Same H1 (upd H1 c (.tup (bs.map V.ref))) := same_new hc
  have ec : (upd H1 c (.tup (bs.map V.ref))) c = some (.tup (bs.map V.ref)) := upd_same
  have ib2 := ITs.kt (KT.of s4) ib
  generalize (upd H1 c (.tup (bs.map V.ref))) = H2 at s4 ec ib2 ⊢
  refine ⟨by show 2 ≤ sizeLine; decide, fun t ht => ?_⟩
  have s5 : Same H2 (upd H2 t (.tup [.int m, .ref c])) := same_new ht
  have s6 := s3.trans (s4.trans s5)
  exact q t _ s6 (same_none (s3.trans s4) ht) ⟨c, bs, upd_same, s5 _ _ ec, ITs.kt (KT.of s5) ib2⟩
theorem ok_law_table (T : Txt K mg) (G_law_taken : FnAt P w K mg base CX0 1 "_law_taken" ["_law_row", "_law_many"] (sp_taken K)) (G_law_order : FnAt P w K mg base CX0 2 "_law_order" ["_law_row", "_law_many"] (sp_orderL K)) (G_law_rule : FnAt P w K mg base CX0 1 "_law_rule" ["_law_pair", "_law_other"] sp_rule) :
    FnAt P w K mg base CX0 3 "_law_table" ["_law_row", "_law_most"] (sp_table K) := by
  refine fn_body T.d_law_table sc_law_table (fun _ _ _ _ _ _ us hl => match us, hl with | [_, _], _ => rfl) ?_ (fun f cdv A outer s H vs Q E hr h => ?_)
  · rintro vs H Q E ⟨_, rfl, _⟩
    rfl
  · refine ⟨_, PSs.nox (pss_cons (ps_par3 (i := 2) (j := 3) (l := 4) rfl sc_law_table.nd rfl rfl rfl (by decide) (by decide) (by decide) rfl rfl rfl (pa_cons (pe_op op_add pe_int (pe_cf G_law_taken (hr.mono (by decide)) rfl pass00 (pa_cons (pv 0) (pa_cons (pe_op op_sub (pv 1) pe_int) pa_nil)))) (pa_cons (pe_cf G_law_taken (hr.mono (by decide)) rfl pass00 (pa_cons (pv 0) (pa_cons pe_int pa_nil))) (pa_cons pe_dnewT pa_nil))) rfl)
    (pss_cons (ps_set (i := 5) sc_law_table.nd rfl (Or.inl rfl) (pe_cf G_law_order (hr.mono (by decide)) rfl pass00 (pa_cons (pv 0) (pa_cons (pv 2) pa_nil))))
    (pss_cons (ps_for PassesOwn.never rfl (pi_range1 rfl T.b_range (pa_cons (pe_op op_add pe_int (pe_cf G_law_taken (hr.mono (by decide)) rfl pass00 (pa_cons (pv 0) (pa_cons pe_int pa_nil)))) pa_nil)) (pg_name (i := 6) sc_law_table.nd rfl (Or.inl rfl))
    (pss_cons (ps_set (i := 7) sc_law_table.nd rfl (Or.inl rfl) (pe_tup (pa_cons (pe_cf G_law_taken (hr.mono (by decide)) rfl pass00 (pa_cons (pv 0) (pa_cons (pv 2) pa_nil))) (pa_cons (pe_cf G_law_taken (hr.mono (by decide)) rfl pass00 (pa_cons (pv 0) (pa_cons (pv 2) pa_nil))) pa_nil))))
    (pss_cons (ps_set (i := 8) sc_law_table.nd rfl (Or.inl rfl) (pe_tup (pa_cons (pe_cf G_law_taken (hr.mono (by decide)) rfl pass00 (pa_cons (pv 0) (pa_cons (pv 2) pa_nil))) (pa_cons (pe_cf G_law_taken (hr.mono (by decide)) rfl pass00 (pa_cons (pv 0) (pa_cons (pv 2) pa_nil))) pa_nil))))
    (C8.pss_cut (ps_if (pt_cmpR op_eq (pv 3) pe_int (nomark _)) (pss_cons (ps_set (i := 9) sc_law_table.nd rfl (Or.inl rfl) (pe_callB (call_max2 rfl) rfl T.b_max (by decide +kernel) (pa_cons (pe_ix ix_list (pv 5) (pe_ix ix_tup (pv 7) pe_int (fun _ _ => rfl)) (fun _ _ => rfl)) (pa_cons (pe_ix ix_list (pv 5) (pe_ix ix_tup (pv 7) pe_int (fun _ _ => rfl)) (fun _ _ => rfl)) pa_nil))))
    (pss_one (ps_set (i := 8) sc_law_table.nd rfl (Or.inl rfl) (pe_tup (pa_cons (pe_bm PySem.F.plainAttrs_list PySem.F.slot_list_index PySem.F.type_list_index mt_index (pv 5) (pa_cons (pv 9) pa_nil)) (pa_cons (pe_bm PySem.F.plainAttrs_list PySem.F.slot_list_index PySem.F.type_list_index mt_index (pv 5) (pa_cons (pv 9) pa_nil)) pa_nil)))))) pss_nil)
    (C8.pss_cut (ps_if (pt_cmpR op_eq (pv 3) pe_int (nomark _)) (pss_one (ps_set (i := 8) sc_law_table.nd rfl (Or.inl rfl) (pe_tup (pa_cons (pe_ix ix_tup (pv 7) pe_int (fun _ _ => rfl)) (pa_cons (pe_callB (call_min2 rfl) rfl T.b_min (by decide +kernel) (pa_cons (pe_ix ix_tup (pv 7) pe_int (fun _ _ => rfl)) (pa_cons (pe_ix ix_tup (pv 8) pe_int (fun _ _ => rfl)) pa_nil))) pa_nil))))) pss_nil)
    (C8.pss_cut (ps_if (PW.pt (pw_and (pt_cmpR op_eq (pv 3) pe_int (nomark _)) (pw_and1 (pt_cmpR op_gt (pe_op op_add (pe_ix ix_list (pv 5) (pe_ix ix_tup (pv 8) pe_int (fun _ _ => rfl)) (fun _ _ => rfl)) (pe_ix ix_list (pv 5) (pe_ix ix_tup (pv 8) pe_int (fun _ _ => rfl)) (fun _ _ => rfl))) (pe_op op_add (pe_ix ix_list (pv 5) (pe_ix ix_tup (pv 7) pe_int (fun _ _ => rfl)) (fun _ _ => rfl)) (pe_ix ix_list (pv 5) (pe_ix ix_tup (pv 7) pe_int (fun _ _ => rfl)) (fun _ _ => rfl))) (nomark _))))) (pss_one (ps_par (i := 7) (j := 8) rfl sc_law_table.nd rfl rfl (by decide) rfl rfl (pa_cons (pv 8) (pa_cons (pv 7) pa_nil)) rfl)) pss_nil)
    (pss_cons (ps_set (i := 10) sc_law_table.nd rfl (Or.inl rfl) (pe_cf G_law_rule (hr.mono (by decide)) rfl pass00 (pa_cons (pv 7) (pa_cons (pv 8) pa_nil))))
    (pss_one (ps_if (pt_cmpR (op_neD hr.units) (pe_slice sl_tupA (pv 10) po_none (po_some pe_int)) (pe_slice sl_tupA (pv 10) (po_some pe_int) po_none) (nomark _)) (pss_one (ps_dput (hu_of hr) (pv 4) (pv 10) pe_bl rfl)) pss_nil)))))))))
    (pss_one (ps_ret (pe_tup (pa_cons (pv 2) (pa_cons (pe_callTy call_tuple_of rfl T.b_tuple (by decide +kernel) (pa_cons (pe_callB (cr_sortKeysT rfl hr.units) rfl T.b_sorted (by decide +kernel) (pa_cons (pe_bm0 PySem.F.plainAttrs_dict PySem.F.slot_dict_keys PySem.F.type_dict_keys mt_keysT (pv 4)) pa_nil)) pa_nil)) pa_nil)))))))), ?_⟩
    obtain ⟨r, rfl, ra, q⟩ := h
    refine ⟨_, rfl, ?_⟩
    refine ⟨_, rfl, ?_⟩
    refine ⟨_, _, rfl, rfl, ?_⟩
    refine ⟨_, _, rfl, (by decide : (0 : Int) < 4 - 1), (by decide : (4 : Int) - 1 < 1073741824), ra, fun v1 H1 f1 ra1 a0 a1 => ?_⟩
    refine ⟨_, _, rfl, rfl, ?_⟩
    refine ⟨_, rfl, ?_⟩
    refine ⟨_, _, rfl, (by decide : (0 : Int) < 5), (by decide : (5 : Int) < 1073741824), ra1, fun way H2 f2 ra2 b0 b1 => ?_⟩
    intro dr hdr
    have f12 := f1.trans f2
    have ndr : H dr = none := f12.none (by obtain ⟨zs, hzs⟩ := ra2.lst; rw [hzs]; exact fun z => by cases z) hdr
    have ed3 : (upd H2 dr (.dT [])) dr = some (.dT (dI [])) := upd_same
    have f3 : Off r H (upd H2 dr (.dT [])) := f12.put ndr
    have ra3 : RowAt K (upd H2 dr (.dT [])) r := ra2.same (same_new hdr)
    refine ⟨_, _, _, rfl, ?_⟩
    show tSeq _ _ _ _ (upd H2 dr (.dT []))
    generalize (upd H2 dr (.dT [])) = H3 at ed3 f3 ra3 ⊢
    have em : ((2 + v1).toNat : Int) = 2 + v1 := by omega
    refine ⟨_, rfl, ?_⟩
    refine ⟨_, rfl, ?_⟩
    refine ⟨r, (2 + v1).toNat, by rw [em], by omega, ra3, fun lo L H4 f4 ra4 nlo elo hL => ?_⟩
    have hdr' : dr ≠ r := fun z => by obtain ⟨zs, hzs⟩ := ra.lst; rw [← z, ndr] at hzs; cases hzs
    have ed4 := f4 _ _ hdr' ed3
    have f34 := f3.trans f4
    have hLm : (L.length : Int) = 2 + v1 := by omega
    have nlo' : H lo = none := f3.none (by obtain ⟨zs, hzs⟩ := ra3.lst; rw [hzs]; exact fun z => by cases z) nlo
    have hlor : lo ≠ r := fun z => by obtain ⟨zs, hzs⟩ := ra.lst; rw [← z, nlo'] at hzs; cases hzs
    have hlod : lo ≠ dr := fun z => by rw [z, ed3] at nlo; cases nlo
    generalize hmy : 2 + v1 = many at em hLm ⊢
    have hm2 : 2 ≤ many := by omega
    have hm4 : many ≤ 4 := by omega
    refine ⟨_, rfl, ?_⟩
    refine ⟨_, _, rfl, (by decide : (0 : Int) < 4), (by decide : (4 : Int) < 1073741824), ra4, fun v2 H5 f5 ra5 c0 c1 => ?_⟩
    refine ⟨_, _, rfl, rfl, ?_⟩
    have f35 := f34.trans f5
    have ed5 := f5 _ _ hdr' ed4
    have el5 := f5 _ _ hlor elo
    refine ⟨_, rfl, by omega, by omega, ?_⟩
    refine for_it walk_range (fun i σ H6 => Off r H H6 ∧ RowAt K H6 r ∧ ∃ l : List (List Int × V), H6 dr = some (.dT (dI l)) ∧ H6 lo = some (.lst (L.map V.int)) ∧ (l.map (·.1)).Nodup ∧ (∀ k ∈ l.map (·.1), RuleOk many k) ∧ l.length ≤ i ∧ ∃ o6 o7 o8 o9 o10, σ = [some (.ref r), some (.int 4), some (.int many), some (.int way), some (.ref dr), some (.ref lo), o6, o7, o8, o9, o10])
      ⟨f35, ra5, [], ed5, el5, List.nodup_nil, fun k hk => by simp at hk, Nat.le_refl _, none, none, none, none, none, by rw [← hmy]; rfl⟩ (fun _ _ _ _ _ => trivial) (fun i x0 σ H6 H7 hi pp yy => ?_) (fun σ H6 pp => ?_)
    · obtain ⟨f6, ra6, l, ed6, el6, nd, rok, hl, o6, o7, o8, o9, o10, rfl⟩ := pp
      obtain ⟨rfl, rfl⟩ := yy
      have hi4 : i < 4 := by omega
      dsimp only [gName, tSeq, tAsg]
      refine pair_ok (m := many) (r := r) ?_ ?_ (by omega) (by omega) ra6 fun p7 x y H8 g1 rb1 n7 i7 r7 => ?_
      · rfl
      · rfl
      have ed7 := g1 _ _ hdr' ed6
      have el7 := g1 _ _ hlor el6
      refine pair_ok (m := many) (r := r) ?_ ?_ (by omega) (by omega) rb1 fun p8 z u H9 g2 rb2 n8 i8 r8 => ?_
      · rfl
      · rfl
      have ed8 := g2 _ _ hdr' ed7
      have el8 := g2 _ _ hlor el7
      obtain ⟨zs, hzs⟩ := rb1.lst
      have i7' := IT.kt (g2.kt hzs) i7
      have f8 := f6.trans (g1.trans g2)
      have hx := r7 x (by simp)
      have hy := r7 y (by simp)
      refine ⟨TabM K H r dr lo l L many (fun a b o9 o10 => [some (.ref r), some (.int 4), some (.int many), some (.int way), some (.ref dr), some (.ref lo), some (.int (0 + (i : Nat))), some (.ref a), some (.ref b), o9, o10]), ?_, ?_⟩
      · refine ⟨_, rfl, ?_⟩
        refine ⟨rfl, ?_⟩
        refine ⟨_, rfl, ?_⟩
        refine ifB (fun e => ?_) (fun e => ?_)
        · refine ⟨_, rfl, ?_⟩
          refine ⟨_, rfl, ?_⟩
          refine ⟨_, _, _, _, rfl, rfl, .of i7', rfl, ?_⟩
          refine ⟨_, _, _, _, rfl, rfl, .of el8, atI_ints (by omega) (by omega), ?_⟩
          refine ⟨_, rfl, ?_⟩
          refine ⟨_, rfl, ?_⟩
          refine ⟨_, _, _, _, rfl, rfl, .of i7', rfl, ?_⟩
          refine ⟨_, _, _, _, rfl, rfl, .of el8, atI_ints (by omega) (by omega), ?_⟩
          refine ⟨_, _, rfl, ?_⟩
          have ht : (if gi L y > gi L x then gi L y else gi L x) ∈ L := by
            split
            · exact gi_mem hy.1 (by omega)
            · exact gi_mem hx.1 (by omega)
          generalize (if gi L y > gi L x then gi L y else gi L x) = tp at ht ⊢
          refine ⟨_, rfl, ?_⟩
          refine ⟨.inl ⟨rfl, _, .of el8⟩, ?_⟩
          refine ⟨_, rfl, ?_⟩
          dsimp only [tNil]
          refine idx_ok el8 ht fun j hj => ?_
          refine ⟨_, rfl, ?_⟩
          refine ⟨.inl ⟨rfl, _, .of el8⟩, ?_⟩
          refine ⟨_, rfl, ?_⟩
          dsimp only [tNil]
          refine idx_ok el8 ht fun j2 hj2 => ?_
          refine ⟨by show 2 ≤ sizeLine; decide, fun p9 hp9 => ?_⟩
          have s9 : Same H9 (upd H9 p9 (.tup [.int j, .int j2])) := same_new hp9
          exact ⟨f8.trans (Off.of s9), rb2.same s9, s9 _ _ ed8, s9 _ _ el8, p7, p9, x, y, j, j2, _, _, IT.kt (KT.of s9) i7', upd_same, r7, inR2 (by omega) (by omega), rfl⟩
        · exact ⟨f8, rb2, ed8, el8, p7, p8, x, y, z, u, _, _, i7', i8, r7, r8, rfl⟩
      rintro σ H10 ⟨f9, rb3, ed9, el9, a, b, x, y, z, u, o9, o10, ia, ib, rA, rB, rfl⟩
      refine ⟨TabM K H r dr lo l L many (fun a b o9 o10 => [some (.ref r), some (.int 4), some (.int many), some (.int way), some (.ref dr), some (.ref lo), some (.int (0 + (i : Nat))), some (.ref a), some (.ref b), o9, o10]), ?_, ?_⟩
      · refine ⟨_, rfl, ?_⟩
        refine ⟨rfl, ?_⟩
        refine ⟨_, rfl, ?_⟩
        refine ifB (fun e => ?_) (fun e => ?_)
        · have hx := rA x (by simp)
          have hz := rB z (by simp)
          refine ⟨_, rfl, ?_⟩
          refine ⟨_, _, _, _, rfl, rfl, .of ia, rfl, ?_⟩
          refine ⟨_, rfl, ?_⟩
          refine ⟨_, _, _, _, rfl, rfl, .of ia, rfl, ?_⟩
          refine ⟨_, rfl, ?_⟩
          refine ⟨_, _, _, _, rfl, rfl, .of ib, rfl, ?_⟩
          refine ⟨_, _, rfl, ?_⟩
          have ht : 0 ≤ (if z < x then z else x) ∧ (if z < x then z else x) < many := by split <;> assumption
          generalize (if z < x then z else x) = tp at ht ⊢
          refine ⟨by show 2 ≤ sizeLine; decide, fun p9 hp9 => ?_⟩
          have s9 : Same H10 (upd H10 p9 (.tup [.int x, .int tp])) := same_new hp9
          exact ⟨f9.trans (Off.of s9), rb3.same s9, s9 _ _ ed9, s9 _ _ el9, a, p9, x, y, x, tp, _, _, IT.kt (KT.of s9) ia, upd_same, rA, inR2 hx ht, rfl⟩
        · exact ⟨f9, rb3, ed9, el9, a, b, x, y, z, u, _, _, ia, ib, rA, rB, rfl⟩
      clear ia ib rA rB f9 rb3 ed9 el9
      rintro σ H11 ⟨f9, rb3, ed9, el9, a, b, x, y, z, u, o9, o10, ia, ib, rA, rB, rfl⟩
      refine ⟨TabM K H r dr lo l L many (fun a b o9 o10 => [some (.ref r), some (.int 4), some (.int many), some (.int way), some (.ref dr), some (.ref lo), some (.int (0 + (i : Nat))), some (.ref a), some (.ref b), o9, o10]), ?_, ?_⟩
      · refine ⟨_, rfl, ?_⟩
        refine ⟨rfl, ?_⟩
        refine ⟨_, rfl, ?_⟩
        refine ifB (fun e => ?_) (fun e => ?_)
        · refine sum_ok (K := K) (o := 5) (p := 8) (lo := lo) (a := b) ?_ ?_ el9 hLm ib rB ?_
          · rfl
          · rfl
          refine sum_ok (K := K) (o := 5) (p := 7) (lo := lo) (a := a) ?_ ?_ el9 hLm ia rA ?_
          · rfl
          · rfl
          refine ⟨_, _, rfl, rfl, ?_⟩
          refine ⟨_, rfl, ?_⟩
          refine ifB (fun e => ?_) (fun e => ?_)
          · refine ⟨_, rfl, ?_⟩
            refine ⟨_, rfl, ?_⟩
            refine ⟨_, _, rfl, ?_⟩
            exact ⟨f9, rb3, ed9, el9, b, a, z, u, x, y, _, _, ib, ia, rB, rA, rfl⟩
          · exact ⟨f9, rb3, ed9, el9, a, b, x, y, z, u, _, _, ia, ib, rA, rB, rfl⟩
        · refine ifF ?_
          exact ⟨f9, rb3, ed9, el9, a, b, x, y, z, u, _, _, ia, ib, rA, rB, rfl⟩
      clear ia ib rA rB f9 rb3 ed9 el9
      rintro σ H12 ⟨f9, rb3, ed9, el9, a, b, x, y, z, u, o9, o10, ia, ib, rA, rB, rfl⟩
      refine ⟨_, rfl, ?_⟩
      refine ⟨_, rfl, ?_⟩
      refine ⟨_, _, _, _, _, _, rfl, ia, ib, fun pr H13 s13 npr ipr => ?_⟩
      obtain ⟨ka, kb, kc, kd, ek, kin, kab, kcd, ksum⟩ := ruleM_mem x y z u
      rw [ek] at ipr
      have ipr' : H13 pr = some (.tup [.int ka, .int kb, .int kc, .int kd]) := ipr
      refine ⟨_, rfl, ?_⟩
      refine ⟨_, rfl, ?_⟩
      refine ⟨_, _, rfl, .of ipr', fun h => absurd h (show ¬ (HT.sIx 4 0 none = 0 ∧ HT.sIx 4 4 (some 2) = 4) by decide), fun _ p1 hp1 => ?_⟩
      have t1 : Same H13 (upd H13 p1 (.tup (cutV [V.int ka, V.int kb, V.int kc, V.int kd] none (some 2)))) := same_new hp1
      have i1 : IT (upd H13 p1 (.tup (cutV [V.int ka, V.int kb, V.int kc, V.int kd] none (some 2)))) p1 [ka, kb] := upd_same
      have ipr2 := t1 _ _ ipr'
      generalize (upd H13 p1 (.tup (cutV [V.int ka, V.int kb, V.int kc, V.int kd] none (some 2)))) = H14 at t1 i1 ipr2 ⊢
      refine ⟨_, rfl, ?_⟩
      refine ⟨_, rfl, ?_⟩
      refine ⟨_, _, rfl, .of ipr2, fun h => absurd h (show ¬ (HT.sIx 4 0 (some 2) = 0 ∧ HT.sIx 4 4 none = 4) by decide), fun _ p2 hp2 => ?_⟩
      have t2 : Same H14 (upd H14 p2 (.tup (cutV [V.int ka, V.int kb, V.int kc, V.int kd] (some 2) none))) := same_new hp2
      have i2 : IT (upd H14 p2 (.tup (cutV [V.int ka, V.int kb, V.int kc, V.int kd] (some 2) none))) p2 [kc, kd] := upd_same
      have ipr3 : IT (upd H14 p2 (.tup (cutV [V.int ka, V.int kb, V.int kc, V.int kd] (some 2) none))) pr [ka, kb, kc, kd] := t2 _ _ ipr2
      have i1' := IT.kt (KT.of t2) i1
      have t13 := s13.trans (t1.trans t2)
      generalize (upd H14 p2 (.tup (cutV [V.int ka, V.int kb, V.int kc, V.int kd] (some 2) none))) = H15 at t2 i2 ipr3 i1' t13 ⊢
      refine ⟨_, _, i1'.dp, i2.dp, shaped_encI _, shaped_encI _, ?_⟩
      rw [eqv_encI]
      have ed15 := t13 _ _ ed9
      have el15 := t13 _ _ el9
      have f15 : Off r H H15 := f9.trans (Off.of t13)
      have rb15 := rb3.same t13
      refine ⟨_, rfl, ?_⟩
      refine ifB (fun e => ?_) (fun e => ?_)
      · refine ⟨_, rfl, ?_⟩
        refine ⟨_, rfl, ?_⟩
        have en : ¬ [ka, kb] = [kc, kd] := fun z => by
          rw [decide_eq_true z] at e
          cases e
        refine ⟨_, _, rfl, dput ed15 ipr3 (by omega), ?_⟩
        refine ⟨f15.put ndr, rb15.upd (nf_dT ed15) hdr', putK l [ka, kb, kc, kd] (.bl true), upd_same, ?_, ?_, ?_, ?_, _, _, _, _, _, rfl⟩
        · rw [upd_ne hlod]
          exact el15
        · rw [keys_putK]
          exact putU_nodup nd
        · rw [keys_putK]
          refine putU_in rok ⟨ka, kb, kc, kd, rfl, kin many rA rB, kab, kcd, fun h => en (by rw [h.1, h.2])⟩
        · have := putK_length l [ka, kb, kc, kd] (.bl true)
          omega
      · exact ⟨f15, rb15, l, ed15, el15, nd, rok, by omega, _, _, _, _, _, rfl⟩
    · obtain ⟨f6, ra6, l, ed6, el6, nd, rok, hl, o6, o7, o8, o9, o10, rfl⟩ := pp
      refine end_ok (K := K) (m := many) (dr := dr) (d := 4) ?_ ?_ ed6 (fun k hk => ?_) fun t H7 s7 nt tab => ?_
      · rfl
      · rfl
      · obtain ⟨a, b, c, d, rfl, _⟩ := rok k hk
        exact fun z => by cases z
      · have ln : (l.map (·.1)).length ≤ 5 := by
          rw [List.length_map]
          omega
        refine q t many _ H7 (f6.trans (Off.of s7)) (ra6.same s7) (f6.none (by obtain ⟨zs, hzs⟩ := ra6.lst; rw [hzs]; exact fun z => by cases z) nt) tab ⟨by omega, by omega, by rw [List.length_mergeSort]; omega, fun k hk => rok k (List.mem_mergeSort.mp hk), rising_sort nd⟩ hm4 (by rw [List.length_mergeSort]; omega)
theorem ok_law_falling (T : Txt K mg) (G_law_taken : FnAt P w K mg base CX0 1 "_law_taken" ["_law_row", "_law_many"] (sp_taken K)) (G_law_order : FnAt P w K mg base CX0 2 "_law_order" ["_law_row", "_law_many"] (sp_orderL K)) (G_law_rule : FnAt P w K mg base CX0 1 "_law_rule" ["_law_pair", "_law_other"] sp_rule) :
    FnAt P w K mg base CX0 3 "_law_falling" ["_law_row", "_law_most"] (sp_table K) := by
  refine fn_body T.d_law_falling sc_law_falling (fun _ _ _ _ _ _ us hl => match us, hl with | [_, _], _ => rfl) ?_ (fun f cdv A outer s H vs Q E hr h => ?_)
  · rintro vs H Q E ⟨_, rfl, _⟩
    rfl
  · refine ⟨_, PSs.nox (pss_cons (ps_par (i := 2) (j := 3) rfl sc_law_falling.nd rfl rfl (by decide) rfl rfl (pa_cons (pe_op op_add pe_int (pe_cf G_law_taken (hr.mono (by decide)) rfl pass00 (pa_cons (pv 0) (pa_cons (pe_op op_sub (pv 1) pe_int) pa_nil)))) (pa_cons pe_dnewT pa_nil)) rfl)
    (pss_cons (ps_par (i := 4) (j := 5) rfl sc_law_falling.nd rfl rfl (by decide) rfl rfl (pa_cons (pe_cf G_law_order (hr.mono (by decide)) rfl pass00 (pa_cons (pv 0) (pa_cons (pv 2) pa_nil))) (pa_cons (pe_cf G_law_taken (hr.mono (by decide)) rfl pass00 (pa_cons (pv 0) (pa_cons pe_int pa_nil))) pa_nil)) rfl)
    (pss_cons (ps_for PassesOwn.never rfl (pi_range1 rfl T.b_range (pa_cons (pe_op op_add pe_int (pe_cf G_law_taken (hr.mono (by decide)) rfl pass00 (pa_cons (pv 0) (pa_cons pe_int pa_nil)))) pa_nil)) (pg_name (i := 6) sc_law_falling.nd rfl (Or.inl rfl))
    (pss_cons (ps_set (i := 7) sc_law_falling.nd rfl (Or.inl rfl) (pe_tup (pa_cons (pe_cf G_law_taken (hr.mono (by decide)) rfl pass00 (pa_cons (pv 0) (pa_cons (pv 2) pa_nil))) (pa_cons (pe_cf G_law_taken (hr.mono (by decide)) rfl pass00 (pa_cons (pv 0) (pa_cons (pv 2) pa_nil))) pa_nil))))
    (pss_cons (ps_set (i := 8) sc_law_falling.nd rfl (Or.inl rfl) (pe_tup (pa_cons (pe_cf G_law_taken (hr.mono (by decide)) rfl pass00 (pa_cons (pv 0) (pa_cons (pv 2) pa_nil))) (pa_cons (pe_cf G_law_taken (hr.mono (by decide)) rfl pass00 (pa_cons (pv 0) (pa_cons (pv 2) pa_nil))) pa_nil))))
    (C8.pss_cut (ps_if (pt_cmpR op_eq (pv 5) pe_int (nomark _)) (pss_cons (ps_set (i := 9) sc_law_falling.nd rfl (Or.inl rfl) (pe_callB (call_min2 rfl) rfl T.b_min (by decide +kernel) (pa_cons (pe_ix ix_list (pv 4) (pe_ix ix_tup (pv 7) pe_int (fun _ _ => rfl)) (fun _ _ => rfl)) (pa_cons (pe_ix ix_list (pv 4) (pe_ix ix_tup (pv 7) pe_int (fun _ _ => rfl)) (fun _ _ => rfl)) pa_nil))))
    (pss_one (ps_set (i := 8) sc_law_falling.nd rfl (Or.inl rfl) (pe_tup (pa_cons (pe_bm PySem.F.plainAttrs_list PySem.F.slot_list_index PySem.F.type_list_index mt_index (pv 4) (pa_cons (pv 9) pa_nil)) (pa_cons (pe_bm PySem.F.plainAttrs_list PySem.F.slot_list_index PySem.F.type_list_index mt_index (pv 4) (pa_cons (pv 9) pa_nil)) pa_nil)))))) pss_nil)
    (C8.pss_cut (ps_if (pt_cmpR op_gt (pe_op op_add (pe_ix ix_list (pv 4) (pe_ix ix_tup (pv 8) pe_int (fun _ _ => rfl)) (fun _ _ => rfl)) (pe_ix ix_list (pv 4) (pe_ix ix_tup (pv 8) pe_int (fun _ _ => rfl)) (fun _ _ => rfl))) (pe_op op_add (pe_ix ix_list (pv 4) (pe_ix ix_tup (pv 7) pe_int (fun _ _ => rfl)) (fun _ _ => rfl)) (pe_ix ix_list (pv 4) (pe_ix ix_tup (pv 7) pe_int (fun _ _ => rfl)) (fun _ _ => rfl))) (nomark _)) (pss_one (ps_par (i := 7) (j := 8) rfl sc_law_falling.nd rfl rfl (by decide) rfl rfl (pa_cons (pv 8) (pa_cons (pv 7) pa_nil)) rfl)) pss_nil)
    (pss_one (ps_if (pt_cmpR op_lt (pe_op op_add (pe_ix ix_list (pv 4) (pe_ix ix_tup (pv 8) pe_int (fun _ _ => rfl)) (fun _ _ => rfl)) (pe_ix ix_list (pv 4) (pe_ix ix_tup (pv 8) pe_int (fun _ _ => rfl)) (fun _ _ => rfl))) (pe_op op_add (pe_ix ix_list (pv 4) (pe_ix ix_tup (pv 7) pe_int (fun _ _ => rfl)) (fun _ _ => rfl)) (pe_ix ix_list (pv 4) (pe_ix ix_tup (pv 7) pe_int (fun _ _ => rfl)) (fun _ _ => rfl))) (nomark _)) (pss_one (ps_dput (hu_of hr) (pv 3) (pe_cf G_law_rule (hr.mono (by decide)) rfl pass00 (pa_cons (pv 7) (pa_cons (pv 8) pa_nil))) pe_bl rfl)) pss_nil)))))))
    (pss_one (ps_ret (pe_tup (pa_cons (pv 2) (pa_cons (pe_callTy call_tuple_of rfl T.b_tuple (by decide +kernel) (pa_cons (pe_callB (cr_sortKeysT rfl hr.units) rfl T.b_sorted (by decide +kernel) (pa_cons (pe_bm0 PySem.F.plainAttrs_dict PySem.F.slot_dict_keys PySem.F.type_dict_keys mt_keysT (pv 3)) pa_nil)) pa_nil)) pa_nil)))))))), ?_⟩
    obtain ⟨r, rfl, ra, q⟩ := h
    refine ⟨_, rfl, ?_⟩
    refine ⟨_, rfl, ?_⟩
    refine ⟨_, _, rfl, rfl, ?_⟩
    refine ⟨_, _, rfl, (by decide : (0 : Int) < 4 - 1), (by decide : (4 : Int) - 1 < 1073741824), ra, fun v1 H1 f1 ra1 a0 a1 => ?_⟩
    refine ⟨_, _, rfl, rfl, ?_⟩
    intro dr hdr
    have ndr : H dr = none := f1.none (by obtain ⟨zs, hzs⟩ := ra1.lst; rw [hzs]; exact fun z => by cases z) hdr
    have ed3 : (upd H1 dr (.dT [])) dr = some (.dT (dI [])) := upd_same
    have f3 : Off r H (upd H1 dr (.dT [])) := f1.put ndr
    have ra3 : RowAt K (upd H1 dr (.dT [])) r := ra1.same (same_new hdr)
    refine ⟨_, _, rfl, ?_⟩
    show tSeq _ _ _ _ (upd H1 dr (.dT []))
    generalize (upd H1 dr (.dT [])) = H3 at ed3 f3 ra3 ⊢
    have em : ((2 + v1).toNat : Int) = 2 + v1 := by omega
    refine ⟨_, rfl, ?_⟩
    refine ⟨_, rfl, ?_⟩
    refine ⟨r, (2 + v1).toNat, by rw [em], by omega, ra3, fun lo L H4 f4 ra4 nlo elo hL => ?_⟩
    have hdr' : dr ≠ r := fun z => by obtain ⟨zs, hzs⟩ := ra.lst; rw [← z, ndr] at hzs; cases hzs
    have ed4 := f4 _ _ hdr' ed3
    have f34 := f3.trans f4
    have hLm : (L.length : Int) = 2 + v1 := by omega
    have nlo' : H lo = none := f3.none (by obtain ⟨zs, hzs⟩ := ra3.lst; rw [hzs]; exact fun z => by cases z) nlo
    have hlor : lo ≠ r := fun z => by obtain ⟨zs, hzs⟩ := ra.lst; rw [← z, nlo'] at hzs; cases hzs
    have hlod : lo ≠ dr := fun z => by rw [z, ed3] at nlo; cases nlo
    generalize hmy : 2 + v1 = many at em hLm ⊢
    have hm2 : 2 ≤ many := by omega
    have hm4 : many ≤ 4 := by omega
    refine ⟨_, rfl, ?_⟩
    refine ⟨_, _, rfl, (by decide : (0 : Int) < 3), (by decide : (3 : Int) < 1073741824), ra4, fun way H4b f4b ra4b b0 b1 => ?_⟩
    refine ⟨_, _, rfl, ?_⟩
    have ed4b := f4b _ _ hdr' ed4
    have el4b := f4b _ _ hlor elo
    have f4c := f34.trans f4b
    refine ⟨_, rfl, ?_⟩
    refine ⟨_, _, rfl, (by decide : (0 : Int) < 5), (by decide : (5 : Int) < 1073741824), ra4b, fun v2 H5 f5 ra5 c0 c1 => ?_⟩
    refine ⟨_, _, rfl, rfl, ?_⟩
    have f35 := f4c.trans f5
    have ed5 := f5 _ _ hdr' ed4b
    have el5 := f5 _ _ hlor el4b
    refine ⟨_, rfl, by omega, by omega, ?_⟩
    refine for_it walk_range (fun i σ H6 => Off r H H6 ∧ RowAt K H6 r ∧ ∃ l : List (List Int × V), H6 dr = some (.dT (dI l)) ∧ H6 lo = some (.lst (L.map V.int)) ∧ (l.map (·.1)).Nodup ∧ (∀ k ∈ l.map (·.1), RuleOk many k) ∧ l.length ≤ i ∧ ∃ o6 o7 o8 o9, σ = [some (.ref r), some (.int 4), some (.int many), some (.ref dr), some (.ref lo), some (.int way), o6, o7, o8, o9])
      ⟨f35, ra5, [], ed5, el5, List.nodup_nil, fun k hk => by simp at hk, Nat.le_refl _, none, none, none, none, by rw [← hmy]; rfl⟩ (fun _ _ _ _ _ => trivial) (fun i x0 σ H6 H7 hi pp yy => ?_) (fun σ H6 pp => ?_)
    · obtain ⟨f6, ra6, l, ed6, el6, nd, rok, hl, o6, o7, o8, o9, rfl⟩ := pp
      obtain ⟨rfl, rfl⟩ := yy
      have hi5 : i < 5 := by omega
      dsimp only [gName, tSeq, tAsg]
      refine pair_ok (m := many) (r := r) ?_ ?_ (by omega) (by omega) ra6 fun p7 x y H8 g1 rb1 n7 i7 r7 => ?_
      · rfl
      · rfl
      have ed7 := g1 _ _ hdr' ed6
      have el7 := g1 _ _ hlor el6
      refine pair_ok (m := many) (r := r) ?_ ?_ (by omega) (by omega) rb1 fun p8 z u H9 g2 rb2 n8 i8 r8 => ?_
      · rfl
      · rfl
      have ed8 := g2 _ _ hdr' ed7
      have el8 := g2 _ _ hlor el7
      obtain ⟨zs, hzs⟩ := rb1.lst
      have i7' := IT.kt (g2.kt hzs) i7
      have f8 := f6.trans (g1.trans g2)
      have hx := r7 x (by simp)
      have hy := r7 y (by simp)
      refine ⟨TabM K H r dr lo l L many (fun a b o9 _ => [some (.ref r), some (.int 4), some (.int many), some (.ref dr), some (.ref lo), some (.int way), some (.int (0 + (i : Nat))), some (.ref a), some (.ref b), o9]), ?_, ?_⟩
      · refine ⟨_, rfl, ?_⟩
        refine ⟨rfl, ?_⟩
        refine ⟨_, rfl, ?_⟩
        refine ifB (fun e => ?_) (fun e => ?_)
        · refine ⟨_, rfl, ?_⟩
          refine ⟨_, rfl, ?_⟩
          refine ⟨_, _, _, _, rfl, rfl, .of i7', rfl, ?_⟩
          refine ⟨_, _, _, _, rfl, rfl, .of el8, atI_ints (by omega) (by omega), ?_⟩
          refine ⟨_, rfl, ?_⟩
          refine ⟨_, rfl, ?_⟩
          refine ⟨_, _, _, _, rfl, rfl, .of i7', rfl, ?_⟩
          refine ⟨_, _, _, _, rfl, rfl, .of el8, atI_ints (by omega) (by omega), ?_⟩
          refine ⟨_, _, rfl, ?_⟩
          have ht : (if gi L y < gi L x then gi L y else gi L x) ∈ L := by
            split
            · exact gi_mem hy.1 (by omega)
            · exact gi_mem hx.1 (by omega)
          generalize (if gi L y < gi L x then gi L y else gi L x) = tp at ht ⊢
          refine ⟨_, rfl, ?_⟩
          refine ⟨.inl ⟨rfl, _, .of el8⟩, ?_⟩
          refine ⟨_, rfl, ?_⟩
          dsimp only [tNil]
          refine idx_ok el8 ht fun j hj => ?_
          refine ⟨_, rfl, ?_⟩
          refine ⟨.inl ⟨rfl, _, .of el8⟩, ?_⟩
          refine ⟨_, rfl, ?_⟩
          dsimp only [tNil]
          refine idx_ok el8 ht fun j2 hj2 => ?_
          refine ⟨by show 2 ≤ sizeLine; decide, fun p9 hp9 => ?_⟩
          have s9 : Same H9 (upd H9 p9 (.tup [.int j, .int j2])) := same_new hp9
          exact ⟨f8.trans (Off.of s9), rb2.same s9, s9 _ _ ed8, s9 _ _ el8, p7, p9, x, y, j, j2, _, none, IT.kt (KT.of s9) i7', upd_same, r7, inR2 (by omega) (by omega), rfl⟩
        · exact ⟨f8, rb2, ed8, el8, p7, p8, x, y, z, u, _, none, i7', i8, r7, r8, rfl⟩
      rintro σ H11 ⟨f9, rb3, ed9, el9, a, b, x, y, z, u, o9, o10, ia, ib, rA, rB, rfl⟩
      refine ⟨TabM K H r dr lo l L many (fun a b o9 _ => [some (.ref r), some (.int 4), some (.int many), some (.ref dr), some (.ref lo), some (.int way), some (.int (0 + (i : Nat))), some (.ref a), some (.ref b), o9]), ?_, ?_⟩
      · dsimp only [tIfS, tTest, tOp]
        refine sum_ok (K := K) (o := 4) (p := 8) (lo := lo) (a := b) ?_ ?_ el9 hLm ib rB ?_
        · rfl
        · rfl
        refine sum_ok (K := K) (o := 4) (p := 7) (lo := lo) (a := a) ?_ ?_ el9 hLm ia rA ?_
        · rfl
        · rfl
        refine ⟨_, _, rfl, rfl, ?_⟩
        refine ⟨_, rfl, ?_⟩
        refine ifB (fun e => ?_) (fun e => ?_)
        · refine ⟨_, rfl, ?_⟩
          refine ⟨_, rfl, ?_⟩
          refine ⟨_, _, rfl, ?_⟩
          exact ⟨f9, rb3, ed9, el9, b, a, z, u, x, y, _, none, ib, ia, rB, rA, rfl⟩
        · exact ⟨f9, rb3, ed9, el9, a, b, x, y, z, u, _, none, ia, ib, rA, rB, rfl⟩
      clear ia ib rA rB f9 rb3 ed9 el9
      rintro σ H12 ⟨f9, rb3, ed9, el9, a, b, x, y, z, u, o9, o10, ia, ib, rA, rB, rfl⟩
      dsimp only [tIfS, tTest, tOp]
      refine sum_ok (K := K) (o := 4) (p := 8) (lo := lo) (a := b) ?_ ?_ el9 hLm ib rB ?_
      · rfl
      · rfl
      refine sum_ok (K := K) (o := 4) (p := 7) (lo := lo) (a := a) ?_ ?_ el9 hLm ia rA ?_
      · rfl
      · rfl
      refine ⟨_, _, rfl, rfl, ?_⟩
      refine ⟨_, rfl, ?_⟩
      refine ifB (fun e => ?_) (fun e => ?_)
      · have e' : gi L z + gi L u < gi L x + gi L y := of_decide_eq_true e
        refine ⟨_, rfl, ?_⟩
        refine ⟨_, rfl, ?_⟩
        refine ⟨_, rfl, ?_⟩
        refine ⟨_, _, _, _, _, _, rfl, ia, ib, fun pr H15 s13 npr ipr3 => ?_⟩
        obtain ⟨ka, kb, kc, kd, ek, kin, kab, kcd, ksum⟩ := ruleM_mem x y z u
        have kne := ruleM_ne (f := gi L) e' ek
        rw [ek] at ipr3
        have ed15 := s13 _ _ ed9
        have el15 := s13 _ _ el9
        have f15 : Off r H H15 := f9.trans (Off.of s13)
        have rb15 := rb3.same s13
        refine ⟨_, _, rfl, dput ed15 ipr3 (by omega), ?_⟩
        refine ⟨f15.put ndr, rb15.upd (nf_dT ed15) hdr', putK l [ka, kb, kc, kd] (.bl true), upd_same, ?_, ?_, ?_, ?_, _, _, _, _, rfl⟩
        · rw [upd_ne hlod]
          exact el15
        · rw [keys_putK]
          exact putU_nodup nd
        · rw [keys_putK]
          exact putU_in rok ⟨ka, kb, kc, kd, rfl, kin many rA rB, kab, kcd, kne⟩
        · have := putK_length l [ka, kb, kc, kd] (.bl true)
          omega
      · exact ⟨f9, rb3, l, ed9, el9, nd, rok, by omega, _, _, _, _, rfl⟩
    · obtain ⟨f6, ra6, l, ed6, el6, nd, rok, hl, o6, o7, o8, o9, rfl⟩ := pp
      refine end_ok (K := K) (m := many) (dr := dr) (d := 3) ?_ ?_ ed6 (fun k hk => ?_) fun t H7 s7 nt tab => ?_
      · rfl
      · rfl
      · obtain ⟨a, b, c, d, rfl, _⟩ := rok k hk
        exact fun z => by cases z
      · have ln : (l.map (·.1)).length ≤ 5 := by
          rw [List.length_map]
          omega
        refine q t many _ H7 (f6.trans (Off.of s7)) (ra6.same s7) (f6.none (by obtain ⟨zs, hzs⟩ := ra6.lst; rw [hzs]; exact fun z => by cases z) nt) tab ⟨by omega, by omega, by rw [List.length_mergeSort]; omega, fun k hk => rok k (List.mem_mergeSort.mp hk), rising_sort nd⟩ hm4 (by rw [List.length_mergeSort]; omega)
end
end K4
set_option Elab.async false
set_option linter.all false
set_option maxRecDepth 100000
set_option maxHeartbeats 400000
/-! the draws: webs -/
namespace K4
open PySem PySem.Spec PyProof.Rows L2 K4R
def allE : List (List Int) := [[0, 1], [0, 2], [0, 3], [1, 2], [1, 3], [2, 3]]
theorem edges_len {m : Int} {E : List (List Int)} (hm : m ≤ 4) (nd : E.Nodup) (h : ∀ e ∈ E, EdgeOk m e) : E.length ≤ 6 := by
  refine len_le_of (m := allE) nd fun e he => ?_
  obtain ⟨a, b, rfl, hin, hab⟩ := h e he
  have ha := hin a (by simp)
  have hb := hin b (by simp)
  have e1 : a = 0 ∨ a = 1 ∨ a = 2 := by omega
  have e2 : b = 1 ∨ b = 2 ∨ b = 3 := by omega
  unfold allE
  rcases e1 with rfl | rfl | rfl <;> rcases e2 with rfl | rfl | rfl <;> first | (exfalso; omega) | simp
def chainE (k : Nat) : List Int := [(k : Int), (k : Int) + 1]
theorem chain_ok {m : Int} {j : Nat} (hj : (j : Int) + 1 ≤ m) : ((List.range j).map chainE).Nodup ∧ ∀ e ∈ (List.range j).map chainE, EdgeOk m e := by
  constructor
  · refine nodup_map_on List.nodup_range fun a _ b _ e => ?_
    have e1 : (a : Int) = (b : Int) := (List.cons.inj e).1
    omega
  · intro e he
    obtain ⟨k, hk, rfl⟩ := List.mem_map.mp he
    have hk' := List.mem_range.mp hk
    refine ⟨k, (k : Int) + 1, rfl, fun x hx => ?_, by omega⟩
    unfold chainE at hx
    simp only [List.mem_cons, List.not_mem_nil, or_false] at hx
    rcases hx with rfl | rfl <;> omega
section
variable {P : Program} {w : World} {K : PySem.W.Frag} {mg : Str → Option Value} {base : Heap}
def sp_web (K : PySem.W.Frag) : Sp := fun vs H Q _ => ∃ (r : Addr), vs = [.ref r, .int 4] ∧ RowAt K H r ∧ ∀ (t : Addr) (m : Int) (es : List (List Int)) (H' : Hp), Off r H H' → RowAt K H' r → H t = none → TabAt H' t m es → WebOk m es → m ≤ 4 → es.length ≤ 6 → Q (.ref t) H'
/-- edges that a row of the loop adds -/
def RowE (k : Int) : Nat → List V → Hp → Prop := fun i acc H => ∃ (as : List Addr) (X : List (List Int)), acc = as.map V.ref ∧ ITs H as X ∧ X.Nodup ∧ ∀ e ∈ X, ∃ j : Int, e = [k, j] ∧ k < j ∧ j < k + 1 + i
theorem RowE.st {k : Int} : StR (RowE k) := fun _ _ _ _ kt ⟨as, X, h1, h2, h3⟩ => ⟨as, X, h1, ITs.kt kt h2, h3⟩
theorem nodup_snoc {α : Type} {l : List α} {x : α} (h : l.Nodup) (hx : ¬ x ∈ l) : (l ++ [x]).Nodup := by
  rw [List.nodup_append]
  refine ⟨h, by simp, ?_⟩
  intro a ha b hb e
  rw [List.mem_singleton.mp hb] at e
  exact hx (e ▸ ha)
/-- the edges so far -/
def EIn (m : Int) (E : List (List Int)) : Prop := E.Nodup ∧ ∀ e ∈ E, EdgeOk m e
def WebM (K : PySem.W.Frag) (H : Hp) (r : Addr) (m way : Int) : L2.St → Hp → Prop := fun σ H4 => Off r H H4 ∧ RowAt K H4 r ∧ ∃ le bs E o5, H4 le = some (.lst (bs.map V.ref)) ∧ ITs H4 bs E ∧ EIn m E ∧ σ = [some (.ref r), some (.int 4), some (.int m), some (.int way), some (.ref le), o5, none]
theorem ok_law_web (T : Txt K mg) (G_law_taken : FnAt P w K mg base CX0 1 "_law_taken" ["_law_row", "_law_many"] (sp_taken K)) : FnAt P w K mg base CX0 2 "_law_web" ["_law_row", "_law_most"] (sp_web K) := by
  refine fn_body T.d_law_web sc_law_web (fun _ _ _ _ _ _ us hl => match us, hl with | [_, _], _ => rfl) ?_ (fun f cdv A outer s H vs Q E hr h => ?_)
  · rintro vs H Q E ⟨_, rfl, _⟩
    rfl
  · refine ⟨_, PSs.nox (pss_cons (ps_asg (pe_tup (pa_cons (pe_op op_add pe_int (pe_cf G_law_taken (hr.mono (by decide)) rfl pass00 (pa_cons (pv 0) (pa_cons (pv 1) pa_nil)))) (pa_cons (pe_cf G_law_taken (hr.mono (by decide)) rfl pass00 (pa_cons (pv 0) (pa_cons pe_int pa_nil))) (pa_cons (pe_lst pa_nil) pa_nil)))) (pg_tup rfl (pgs_cons (pg_name (i := 2) sc_law_web.nd rfl (Or.inl rfl)) (pgs_cons (pg_name (i := 3) sc_law_web.nd rfl (Or.inr rfl)) (pgs_cons (pg_name (i := 4) sc_law_web.nd rfl (Or.inl rfl)) pgs_nil)))))
    (pss_cons (ps_for PassesOwn.never rfl (pi_range1 rfl T.b_range (pa_cons (pv 2) pa_nil)) (pg_name (i := 5) sc_law_web.nd rfl (Or.inr rfl))
    (pss_one (ps_set (i := 4) sc_law_web.nd rfl (Or.inl rfl) (pe_op op_cat (pv 4) (pe_lc (own := [("_law_j", 6)]) rfl sc_law_web.nd (pi_range2 rfl T.b_range (pa_cons (pe_op op_add (pv 5) pe_int) (pa_cons (pv 2) pa_nil))) (blkOk_by (N := N_law_web) (sc := defScope s_law_web) (by decide +kernel)) (fun _ _ _ _ _ => (pg_name (i := 6) sc_law_web.nd rfl (Or.inl rfl))) (fun _ _ _ _ _ => (pts_one (PW.pt (pw_and (pt_cmpR op_lt (pv 3) pe_int (nomark _)) (pw_and1 (pt_cmpR op_eq (pe_cf G_law_taken (hr.mono (by decide)) rfl pass00 (pa_cons (pv 0) (pa_cons pe_int pa_nil))) pe_int (nomark _))))))) (fun _ _ _ _ _ => (pe_tup (pa_cons (pv 5) (pa_cons (pv 6) pa_nil)))))))))
    (C8.pss_cut (ps_if (pt_cmpR op_gt (pv 3) pe_int (nomark _)) (pss_one (ps_set (i := 4) sc_law_web.nd rfl (Or.inl rfl) (pe_op op_cat (pe_lc (own := [("_law_k", 5)]) rfl sc_law_web.nd (pi_range1 rfl T.b_range (pa_cons (pe_op op_sub (pv 2) pe_int) pa_nil)) (blkOk_by (N := N_law_web) (sc := defScope s_law_web) (by decide +kernel)) (fun _ _ _ _ _ => (pg_name (i := 5) sc_law_web.nd rfl (Or.inl rfl))) (fun _ _ _ _ _ => pts_nil) (fun _ _ _ _ _ => (pe_tup (pa_cons (pv 5) (pa_cons (pe_op op_add (pv 5) pe_int) pa_nil))))) (pe_ifExp (PW.pt (pw_and (pt_cmpR op_gt (pv 2) pe_int (nomark _)) (pw_and1 (pt_cmpR op_eq (pv 3) pe_int (nomark _))))) (pe_lst (pa_cons (pe_tup (pa_cons pe_int (pa_cons (pe_op op_sub (pv 2) pe_int) pa_nil))) pa_nil)) (pe_lst pa_nil))))) pss_nil)
    (pss_one (ps_ret (pe_tup (pa_cons (pv 2) (pa_cons (pe_callTy call_tuple_of rfl T.b_tuple (by decide +kernel) (pa_cons (pe_callB (cr_sortedT hr.units) rfl T.b_sorted (by decide +kernel) (pa_cons (pv 4) pa_nil)) pa_nil)) pa_nil)))))))), ?_⟩
    obtain ⟨r, rfl, ra, q⟩ := h
    refine ⟨_, rfl, ?_⟩
    refine ⟨_, rfl, ?_⟩
    refine ⟨_, _, rfl, (by decide : (0 : Int) < 4), (by decide : (4 : Int) < 1073741824), ra, fun v1 H1 f1 ra1 a0 a1 => ?_⟩
    refine ⟨_, _, rfl, rfl, ?_⟩
    refine ⟨_, rfl, ?_⟩
    refine ⟨_, _, rfl, (by decide : (0 : Int) < 5), (by decide : (5 : Int) < 1073741824), ra1, fun way H2 f2 ra2 b0 b1 => ?_⟩
    refine ⟨Nat.zero_le _, fun le hle => ?_⟩
    have f12 := f1.trans f2
    have nle : H le = none := f12.none (by obtain ⟨zs, hzs⟩ := ra2.lst; rw [hzs]; exact fun z => by cases z) hle
    have s3 : Same H2 (upd H2 le (.lst [])) := same_new hle
    have f3 : Off r H (upd H2 le (.lst [])) := f12.trans (Off.of s3)
    have ra3 := ra2.same s3
    have el3 : (upd H2 le (.lst [])) le = some (.lst (([] : List Addr).map V.ref)) := upd_same
    generalize (upd H2 le (.lst [])) = H3 at s3 f3 ra3 el3 ⊢
    generalize hmy : 1 + v1 = many
    have hm1 : 1 ≤ many := by omega
    have hm4 : many ≤ 4 := by omega
    refine ⟨by show 3 ≤ sizeLine; decide, fun t0 ht0 => ?_⟩
    have s4 : Same H3 (upd H3 t0 (.tup [.int (1 + v1), .int way, .ref le])) := same_new ht0
    refine ⟨_, _, rfl, .of upd_same, rfl, ?_⟩
    refine ⟨_, _, rfl, ?_⟩
    refine ⟨_, _, rfl, ?_⟩
    refine ⟨_, _, rfl, ?_⟩
    refine ⟨rfl, ?_⟩
    have f4 := f3.trans (Off.of s4)
    have ra4 := ra3.same s4
    have el4 := s4 _ _ el3
    refine ⟨_, rfl, ?_⟩
    refine ⟨_, rfl, by show -(2 ^ 62) ≤ 1 + v1; omega, by show 1 + v1 < 2 ^ 62; omega, ?_⟩
    have emn : (1 + v1).toNat = many.toNat := by rw [hmy]
    refine for_it walk_range (fun i σ H6 => Off r H H6 ∧ RowAt K H6 r ∧ ∃ le bs E o5, H6 le = some (.lst (bs.map V.ref)) ∧ ITs H6 bs E ∧ EIn many E ∧ (∀ e ∈ E, gi e 0 < i) ∧ σ = [some (.ref r), some (.int 4), some (.int many), some (.int way), some (.ref le), o5, none])
      ⟨f4, ra4, le, [], [], none, el4, .nil, ⟨List.nodup_nil, fun e he => by simp at he⟩, fun e he => by simp at he, by rw [← hmy]; rfl⟩ (fun _ _ _ _ _ => trivial) (fun i x0 σ H6 H7 hi pp yy => ?_) (fun σ H6 pp => ?_)
    · obtain ⟨f6, ra6, le, bs, E, o5, el6, ib, ⟨nd, eok⟩, elt, rfl⟩ := pp
      obtain ⟨rfl, hx⟩ := yy
      obtain rfl : x0 = .int (i : Int) := by rw [hx]; exact congrArg V.int (by omega)
      have hi' : (i : Int) < many := by
        have : i < (1 + v1).toNat := hi
        omega
      obtain ⟨ys6, hys6⟩ := ra6.lst
      have hE6 := edges_len hm4 nd eok
      have hbl := ib.length
      refine ⟨_, rfl, ?_⟩
      refine ⟨_, rfl, ?_⟩
      refine ⟨_, _, rfl, rfl, ?_⟩
      refine ⟨_, rfl, ?_⟩
      refine ⟨_, _, rfl, ⟨by omega, by omega, by omega, by omega⟩, ?_⟩
      intro D hD
      refine lc_it walk_range (PvR K r H7 D (RowE i)) (PvR.zero RowE.st ra6 hD ⟨[], [], rfl, .nil, List.nodup_nil, fun e he => by simp at he⟩) (fun _ _ _ _ => trivial) (fun z xx H8 H9 hz p yy => ?_) (fun H8 p => ?_)
      · obtain ⟨acc, eD, hl, g1, rb1, as, X, rfl, iX, ndX, hX⟩ := p
        obtain ⟨rfl, rfl⟩ := yy
        have hz' : (i : Int) + 1 + z < many := by omega
        refine ⟨rfl, ?_⟩
        have up : RowE i (z + 1) (as.map V.ref) H9 := ⟨as, X, rfl, iX, ndX, fun e he => by
          obtain ⟨j, h1, h2, h3⟩ := hX e he
          exact ⟨j, h1, h2, by omega⟩⟩
        refine ⟨_, rfl, ?_⟩
        refine ⟨_, _, rfl, rfl, ?_⟩
        refine ⟨_, rfl, ?_⟩
        refine ifB (fun e => ?_) (fun e => ?_)
        · refine ⟨_, rfl, ?_⟩
          refine ⟨_, _, rfl, (by decide : (0 : Int) < 2), (by decide : (2 : Int) < 1073741824), rb1, fun v H10 g2 rb2 c0 c1 => ?_⟩
          obtain ⟨ys9, hys9⟩ := rb1.lst
          have kt2 := g2.kt hys9
          refine ⟨rfl, ?_⟩
          refine ⟨_, rfl, ?_⟩
          refine ifB (fun e2 => ?_) (fun e2 => ?_)
          · refine ⟨_, rfl, ?_⟩
            refine ⟨_, rfl, ?_⟩
            refine ⟨by show 2 ≤ sizeLine; decide, fun p hp => ?_⟩
            have s5 : Same H10 (upd H10 p (.tup [.int i, .int ((i : Int) + 1 + (z : Nat))])) := same_new hp
            have ip : IT (upd H10 p (.tup [.int i, .int ((i : Int) + 1 + (z : Nat))])) p [(i : Int), (i : Int) + 1 + (z : Nat)] := upd_same
            refine PvR.put RowE.st ra6 hD eD hl g1 (g2.trans (Off.of s5)) (rb2.same s5) ⟨as ++ [p], X ++ [[(i : Int), (i : Int) + 1 + (z : Nat)]], by rw [List.map_append]; rfl, (ITs.kt (kt2.trans (KT.of s5)) iX).snoc ip, nodup_snoc ndX fun hm => ?_, fun e he => ?_⟩ (by omega)
            · obtain ⟨j, h1, h2, h3⟩ := hX _ hm
              simp only [List.cons.injEq, and_true, true_and] at h1
              omega
            · rcases List.mem_append.mp he with he | he
              · obtain ⟨j, h1, h2, h3⟩ := hX e he
                exact ⟨j, h1, h2, by omega⟩
              · rw [List.mem_singleton.mp he]
                exact ⟨_, rfl, by omega, by omega⟩
          · exact PvR.skip ra6 hD eD hl g1 g2 rb2 (RowE.st _ _ _ _ kt2 up)
        · refine ifF ?_
          exact PvR.skip ra6 hD eD hl g1 Off.refl rb1 up
      · obtain ⟨acc, eD, hl, g1, rb1, as, X, rfl, iX, ndX, hX⟩ := p
        have hler : le ≠ r := fun z => by
          obtain ⟨sc, ns, a, b, c, h1, _⟩ := ra6
          rw [z, h1] at el6
          have q1 := congrArg List.length (HO.lst.inj (Option.some.inj el6))
          rw [List.length_map] at q1
          have q2 := (HO.lst.inj (Option.some.inj el6))
          cases bs with
          | nil => cases q2
          | cons b1 bs =>
            cases bs with
            | nil => cases q2
            | cons b2 bs =>
              have := congrArg (fun l => l[1]?) q2
              simp at this
        have el8 := g1 _ _ hler el6
        have ktg := g1.kt hys6
        have hxl := iX.length
        have eokX : ∀ e ∈ X, EdgeOk many e := fun e he => by
          obtain ⟨j, rfl, h2, h3⟩ := hX e he
          exact ⟨i, j, rfl, inR2 (by omega) (by omega), h2⟩
        have hX6 := edges_len hm4 ndX eokX
        refine ⟨_, _, _, _, rfl, rfl, el8, eD, by rw [List.length_map, List.length_map, sizeLine_is]; omega, fun p hp => ?_⟩
        have s5 : Same H8 (upd H8 p (.lst (bs.map V.ref ++ as.map V.ref))) := same_new hp
        have ep : (upd H8 p (.lst (bs.map V.ref ++ as.map V.ref))) p = some (.lst ((bs ++ as).map V.ref)) := by rw [upd_same, List.map_append]
        refine ⟨f6.trans (g1.trans (Off.of s5)), rb1.same s5, p, bs ++ as, E ++ X, _, ep, ITs.kt (KT.of s5) (paired_append (ITs.kt ktg ib) iX), ⟨?_, ?_⟩, ?_, rfl⟩
        · rw [List.nodup_append]
          refine ⟨nd, ndX, ?_⟩
          intro a ha b hb e
          obtain ⟨j, h1, _⟩ := hX b hb
          have := elt a ha
          rw [e, h1] at this
          have e2 : gi [(i : Int), j] 0 = i := rfl
          omega
        · intro e he
          rcases List.mem_append.mp he with he | he
          · exact eok e he
          · exact eokX e he
        · intro e he
          rcases List.mem_append.mp he with he | he
          · have := elt e he
            omega
          · obtain ⟨j, h1, _⟩ := hX e he
            rw [h1]
            have e2 : gi [(i : Int), j] 0 = i := rfl
            omega
    · obtain ⟨f6, ra6, le, bs, E, o5, el6, ib, ein, elt, rfl⟩ := pp
      refine ⟨WebM K H r many way, ?_, ?_⟩
      · refine ⟨_, rfl, ?_⟩
        refine ⟨_, _, rfl, rfl, ?_⟩
        refine ⟨_, rfl, ?_⟩
        refine ifB (fun e => ?_) (fun e => ?_)
        · refine ⟨_, rfl, ?_⟩
          refine ⟨_, _, rfl, rfl, ?_⟩
          refine ⟨_, rfl, by omega, by omega, ?_⟩
          intro D hD
          refine lc_it walk_range (PvLc H6 D (RI fun i => (List.range i).map chainE)) (PvLc.zero RI.st hD (RI.zero rfl)) (fun _ _ _ _ => trivial) (fun z xx H8 H9 hz p yy => ?_) (fun H8 p => ?_)
          · obtain ⟨acc, eD, hl, s1, hr⟩ := p
            obtain ⟨rfl, hx⟩ := yy
            obtain rfl : xx = .int (z : Int) := by rw [hx]; exact congrArg V.int (by omega)
            refine ⟨rfl, ?_⟩
            refine ⟨_, rfl, ?_⟩
            refine ⟨_, rfl, ?_⟩
            refine ⟨_, _, rfl, rfl, ?_⟩
            refine ⟨by show 2 ≤ sizeLine; decide, fun p hp => ?_⟩
            have s5 : Same H9 (upd H9 p (.tup [.int z, .int ((z : Int) + 1)])) := same_new hp
            have ip : IT (upd H9 p (.tup [.int z, .int ((z : Int) + 1)])) p (chainE z) := upd_same
            exact PvLc.put RI.st hD eD hl s1 s5 (RI.snoc hr (KT.of s5) ip (by rw [List.range_succ, List.map_append]; rfl)) (by omega)
          · obtain ⟨acc, eD, hl, s1, as, rfl, iX⟩ := p
            obtain ⟨ndC, okC⟩ := chain_ok (m := many) (j := (many - 1).toNat) (by omega)
            have hXl := edges_len hm4 ndC okC
            have hxl := iX.length
            dsimp only at hxl
            have join : ∀ (c : Addr) (cs : List Addr) (X : List (List Int)) (H9 : Hp), Same H8 H9 → H9 c = some (.lst (cs.map V.ref)) → ITs H9 cs X → X.length ≤ 1 → EIn many ((List.range (many - 1).toNat).map chainE ++ X) →
                ∃ l b xs zs, V.ref D = V.ref l ∧ V.ref c = V.ref b ∧ H9 l = some (.lst xs) ∧ H9 b = some (.lst zs) ∧ xs.length + zs.length ≤ sizeLine ∧ ∀ p, H9 p = none → WebM K H r many way ([some (.ref r), some (.int 4), some (.int many), some (.int way), some (.ref le), o5, none].set 4 (some (.ref p))) (upd H9 p (.lst (xs ++ zs))) := fun c cs X H9 s9 ec ic hX1 hein => by
              have icl := ic.length
              refine ⟨D, c, _, _, rfl, rfl, s9 _ _ eD, ec, by rw [List.length_map, List.length_map, sizeLine_is]; omega, fun p hp => ?_⟩
              have s10 : Same H9 (upd H9 p (.lst (as.map V.ref ++ cs.map V.ref))) := same_new hp
              have s11 := s1.trans (s9.trans s10)
              refine ⟨f6.trans (Off.of s11), ra6.same s11, p, as ++ cs, _, o5, by rw [upd_same, List.map_append], paired_append (ITs.kt (KT.of (s9.trans s10)) iX) (ITs.kt (KT.of s10) ic), hein, rfl⟩
            have none_ : ∀ c, H8 c = none → _ := fun c hc => join c [] [] (upd H8 c (.lst [])) (same_new hc) upd_same .nil (by simp) (by rw [List.append_nil]; exact ⟨ndC, okC⟩)
            refine ⟨_, rfl, ?_⟩
            refine ⟨_, _, rfl, rfl, ?_⟩
            refine ⟨_, rfl, ?_⟩
            refine ifB (fun e1 => ?_) (fun e1 => ?_)
            · have e1' : 2 < many := of_decide_eq_true e1
              refine ⟨_, rfl, ?_⟩
              refine ⟨rfl, ?_⟩
              refine ⟨_, rfl, ?_⟩
              refine ifB (fun e2 => ?_) (fun e2 => ?_)
              · refine ⟨_, rfl, ?_⟩
                refine ⟨_, _, rfl, rfl, ?_⟩
                refine ⟨by show 2 ≤ sizeLine; decide, fun p hp => ?_⟩
                have s5 : Same H8 (upd H8 p (.tup [.int 0, .int (many - 1)])) := same_new hp
                have ip : IT (upd H8 p (.tup [.int 0, .int (many - 1)])) p [0, many - 1] := upd_same
                show (([V.ref p] : List V)).length ≤ sizeLine ∧ _
                refine ⟨by show 1 ≤ sizeLine; decide, fun c hc => ?_⟩
                have s6 : Same (upd H8 p (.tup [.int 0, .int (many - 1)])) (upd (upd H8 p (.tup [.int 0, .int (many - 1)])) c (.lst [.ref p])) := same_new hc
                refine join c [p] [[0, many - 1]] _ (s5.trans s6) upd_same (.cons (IT.kt (KT.of s6) ip) .nil) (by simp) ⟨nodup_snoc ndC fun hm => ?_, fun e he => ?_⟩
                · obtain ⟨k, hk, e3⟩ := List.mem_map.mp hm
                  unfold chainE at e3
                  simp only [List.cons.injEq, and_true] at e3
                  omega
                · rcases List.mem_append.mp he with he | he
                  · exact okC e he
                  · rw [List.mem_singleton.mp he]
                    exact ⟨0, many - 1, rfl, inR2 (by omega) (by omega), by omega⟩
              · refine ⟨Nat.zero_le _, fun c hc => ?_⟩
                exact none_ c hc
            · refine ifF ?_
              refine ⟨Nat.zero_le _, fun c hc => ?_⟩
              exact none_ c hc
        · exact ⟨f6, ra6, le, bs, E, o5, el6, ib, ein, rfl⟩
      rintro σ H7 ⟨f7, ra7, le, bs, E, o5, el7, ib, ⟨nd, eok⟩, rfl⟩
      have hE6 := edges_len hm4 nd eok
      have hbl := ib.length
      refine ⟨_, rfl, ?_⟩
      refine ⟨_, rfl, ?_⟩
      refine ⟨_, _, _, rfl, .of el7, ib, fun k hk => ?_, by rw [sizeLine_is]; omega, fun p bs2 hp hb => ?_⟩
      · obtain ⟨a, b, rfl, _⟩ := eok k hk
        exact fun z => by cases z
      have s1 : Same H7 (upd H7 p (.lst (bs2.map V.ref))) := same_new hp
      have ep : (upd H7 p (.lst (bs2.map V.ref))) p = some (.lst (bs2.map V.ref)) := upd_same
      have ib1 := ITs.kt (KT.of s1) hb
      generalize (upd H7 p (.lst (bs2.map V.ref))) = H8 at s1 ep ib1 ⊢
      refine ⟨_, _, rfl, .inl ⟨.of ep, fun c hc => ?_⟩⟩
      have s4 : Same H8 (upd H8 c (.tup (bs2.map V.ref))) := same_new hc
      have ec : (upd H8 c (.tup (bs2.map V.ref))) c = some (.tup (bs2.map V.ref)) := upd_same
      have ib2 := ITs.kt (KT.of s4) ib1
      generalize (upd H8 c (.tup (bs2.map V.ref))) = H9 at s4 ec ib2 ⊢
      refine ⟨by show 2 ≤ sizeLine; decide, fun t ht => ?_⟩
      have s5 : Same H9 (upd H9 t (.tup [.int many, .ref c])) := same_new ht
      have s6 := s1.trans (s4.trans s5)
      have nt : H t = none := f7.none (by obtain ⟨zs, hzs⟩ := ra7.lst; rw [hzs]; exact fun z => by cases z) (same_none (s1.trans s4) ht)
      exact q t many _ _ (f7.trans (Off.of s6)) (ra7.same s6) nt ⟨c, bs2, upd_same, s5 _ _ ec, ITs.kt (KT.of s5) ib2⟩ ⟨by omega, by omega, by rw [List.length_mergeSort]; omega, fun k hk => eok k (List.mem_mergeSort.mp hk), rising_sort nd⟩ hm4 (by rw [List.length_mergeSort]; omega)
end
end K4
set_option Elab.async false
set_option linter.all false
set_option maxRecDepth 100000
set_option maxHeartbeats 400000
/-! _law_alike -/
namespace K4
open PySem PySem.Spec PyProof.Rows L2 K4R
/-- alike, at most so deep -/
def Alk (H : Hp) : Nat → V → V → Prop
  | 0, x, y => x = y ∧ ((∃ i, x = .int i) ∨ ∃ z, x = .str z)
  | n + 1, x, y => Alk H n x y ∨ ∃ a b xs ys, x = .ref a ∧ y = .ref b ∧ H a = some (.tup xs) ∧ H b = some (.tup ys) ∧ xs.length ≤ 100 ∧ Paired (Alk H n) xs ys
theorem Alk.same {H H' : Hp} (s : Same H H') : ∀ {n : Nat} {x y : V}, Alk H n x y → Alk H' n x y
  | 0, _, _, h => h
  | n + 1, _, _, h => by
    rcases h with h | ⟨a, b, xs, ys, e1, e2, h1, h2, hl, h3⟩
    · exact .inl (Alk.same s h)
    · exact .inr ⟨a, b, xs, ys, e1, e2, s _ _ h1, s _ _ h2, hl, Paired.mono (fun _ _ q => Alk.same s q) h3⟩
theorem kit_pair {K : PySem.W.Frag} {t a b : String} {k l : Bool} (h1 : kitB t a = some k) (h2 : kitB t b = some l) : PySem.W.kitAny K (.type t) [.type a, .type b] = some (k || l) := by
  cases k with
  | true => exact kitAny_cons (kit_ty h1) (fun z => nomatch z) (fun _ => rfl)
  | false =>
    refine kitAny_cons (kit_ty h1) (fun _ => ?_) (fun z => nomatch z)
    cases l with
    | true => exact kitAny_cons (kit_ty h2) (fun z => nomatch z) (fun _ => rfl)
    | false => exact kitAny_cons (kit_ty h2) (fun _ => rfl) (fun z => nomatch z)
section
variable {P : Program} {w : World} {K : PySem.W.Frag} {mg : Str → Option Value} {base : Heap}
def sp_alike (n : Nat) : Sp := fun vs H Q _ => ∃ x y : V, vs = [x, y] ∧ Alk H n x y ∧ ∀ H', Same H H' → Q (.bl true) H'
/-- behind the first if: ints and texts -/
theorem ok_alike0 (T : Txt K mg) : FnAt P w K mg base CX0 1 "_law_alike" ["_law_found", "_law_due"] (sp_alike 0) := by
  refine fn_body T.d_law_alike sc_law_alike (fun _ _ _ _ _ _ us hl => match us, hl with | [_, _], _ => rfl) ?_ (fun f cdv A outer s H vs Q E hr h => ?_)
  · rintro vs H Q E ⟨_, _, rfl, _⟩
    rfl
  · refine ⟨_, PSs.nox (pss_cons (ps_if (pt_val (pe_callB call_isiT rfl T.b_isinstance (by decide +kernel) (pa_cons (pv 1) (pa_cons (pe_tup (pa_cons (pe_bltn rfl T.b_tuple (by decide +kernel) (v := .ty "tuple") rfl) (pa_cons (pe_bltn rfl T.b_list (by decide +kernel) (v := .ty "list") rfl) pa_nil))) pa_nil)))) pss_never pss_nil)
    (pss_cons (ps_if (PW.pt (pw_or (pt_cmpR op_isN (pv 1) pe_non (nomark _)) (pw_or1 (pt_val (pe_callB call_isi rfl T.b_isinstance (by decide +kernel) (pa_cons (pv 1) (pa_cons (pe_bltn rfl T.b_str (by decide +kernel) (v := .ty "str") rfl) pa_nil))))))) (pss_one (ps_ret (pe_and (pe_cmpR op_eq (pv 0) (pv 1) (nomark _)) (pe_one (pe_cmpR op_eq (pe_callB call_isi rfl T.b_isinstance (by decide +kernel) (pa_cons (pv 0) (pa_cons (pe_bltn rfl T.b_str (by decide +kernel) (v := .ty "str") rfl) pa_nil))) (pe_callB call_isi rfl T.b_isinstance (by decide +kernel) (pa_cons (pv 1) (pa_cons (pe_bltn rfl T.b_str (by decide +kernel) (v := .ty "str") rfl) pa_nil))) (nomark _)))))) pss_nil)
    (pss_one (ps_ret (pe_and (pe_callB call_isi rfl T.b_isinstance (by decide +kernel) (pa_cons (pv 0) (pa_cons (pe_bltn rfl T.b_int (by decide +kernel) (v := .ty "int") rfl) pa_nil))) (pe_and (pe_cmpR op_eq (pe_callB call_isi rfl T.b_isinstance (by decide +kernel) (pa_cons (pv 0) (pa_cons (pe_bltn rfl T.b_bool (by decide +kernel) (v := .ty "bool") rfl) pa_nil))) (pe_callB call_isi rfl T.b_isinstance (by decide +kernel) (pa_cons (pv 1) (pa_cons (pe_bltn rfl T.b_bool (by decide +kernel) (v := .ty "bool") rfl) pa_nil))) (nomark _)) (pe_one (pe_cmpR op_eq (pv 0) (pv 1) (nomark _))))))))), ?_⟩
    obtain ⟨x, y, rfl, hal, q⟩ := h
    obtain ⟨rfl, hx⟩ := hal
    rcases hx with ⟨i, rfl⟩ | ⟨z, rfl⟩
    · refine ⟨_, rfl, ?_⟩
      refine ⟨by show 2 ≤ sizeLine; decide, fun p hp => ?_⟩
      have s1 := same_new (o := .tup [.ty "tuple", .ty "list"]) hp
      refine ⟨_, p, [.ty "tuple", .ty "list"], _, _, _, rfl, upd_same, .cons (.ty _) (.cons (.ty _) .nil), .base (.int _), kit_pair (k := false) (l := false) (by decide +kernel) (by decide +kernel), ?_⟩
      refine ⟨_, rfl, ?_⟩
      refine ifN rfl ?_
      refine ⟨_, rfl, ?_⟩
      refine ⟨rfl, ?_⟩
      refine ⟨_, rfl, ?_⟩
      refine ifN (by simp) ?_
      refine ⟨_, rfl, ?_⟩
      refine ⟨_, _, _, _, false, rfl, .ty _, .base (.int _), kit_ty (by decide +kernel), ?_⟩
      refine ⟨_, rfl, ?_⟩
      refine ifF ?_
      refine ⟨_, rfl, ?_⟩
      refine ⟨_, _, _, _, true, rfl, .ty _, .base (.int _), kit_ty (by decide +kernel), ?_⟩
      refine ⟨true, rfl, ?_⟩
      refine ifT ?_
      refine ⟨_, rfl, ?_⟩
      refine ⟨_, _, _, _, false, rfl, .ty _, .base (.int _), kit_ty (by decide +kernel), ?_⟩
      refine ⟨_, rfl, ?_⟩
      refine ⟨_, _, _, _, false, rfl, .ty _, .base (.int _), kit_ty (by decide +kernel), ?_⟩
      refine ⟨rfl, ?_⟩
      refine ⟨_, rfl, ?_⟩
      refine ifP (by decide) ?_
      refine ⟨_, rfl, ?_⟩
      refine ⟨_, rfl, ?_⟩
      refine ⟨rfl, ?_⟩
      rw [decide_eq_true rfl]
      exact q _ s1
    · refine ⟨_, rfl, ?_⟩
      refine ⟨by show 2 ≤ sizeLine; decide, fun p hp => ?_⟩
      have s1 := same_new (o := .tup [.ty "tuple", .ty "list"]) hp
      refine ⟨_, p, [.ty "tuple", .ty "list"], _, _, _, rfl, upd_same, .cons (.ty _) (.cons (.ty _) .nil), .base (.str _), kit_pair (k := false) (l := false) (by decide +kernel) (by decide +kernel), ?_⟩
      refine ⟨_, rfl, ?_⟩
      refine ifN rfl ?_
      refine ⟨_, rfl, ?_⟩
      refine ⟨rfl, ?_⟩
      refine ⟨_, rfl, ?_⟩
      refine ifN (by simp) ?_
      refine ⟨_, rfl, ?_⟩
      refine ⟨_, _, _, _, true, rfl, .ty _, .base (.str _), kit_ty (by decide +kernel), ?_⟩
      refine ⟨_, rfl, ?_⟩
      refine ifT ?_
      refine ⟨_, rfl, ?_⟩
      refine ⟨_, rfl, ?_⟩
      refine ⟨rfl, ?_⟩
      rw [decide_eq_true rfl]
      refine ⟨_, rfl, ?_⟩
      refine ifT ?_
      refine ⟨_, rfl, ?_⟩
      refine ⟨_, _, _, _, true, rfl, .ty _, .base (.str _), kit_ty (by decide +kernel), ?_⟩
      refine ⟨_, rfl, ?_⟩
      refine ⟨_, _, _, _, true, rfl, .ty _, .base (.str _), kit_ty (by decide +kernel), ?_⟩
      refine ⟨rfl, ?_⟩
      exact q _ s1
theorem Alk.cases {H : Hp} : ∀ {n : Nat} {x y : V}, Alk H (n + 1) x y → Alk H 0 x y ∨ ∃ a b xs ys, x = .ref a ∧ y = .ref b ∧ H a = some (.tup xs) ∧ H b = some (.tup ys) ∧ xs.length ≤ 100 ∧ Paired (Alk H n) xs ys
  | 0, _, _, h => h
  | n + 1, _, _, h => by
    rcases h with h | h
    · rcases Alk.cases h with h | ⟨a, b, xs, ys, e1, e2, h1, h2, hl, h3⟩
      · exact .inl h
      · exact .inr ⟨a, b, xs, ys, e1, e2, h1, h2, hl, Paired.mono (fun _ _ q => .inl q) h3⟩
    · exact .inr h
theorem ok_alikeS (T : Txt K mg) {n k : Nat} (G_law_alike : FnAt P w K mg base CX0 k "_law_alike" ["_law_found", "_law_due"] (sp_alike n)) : FnAt P w K mg base CX0 (k + 1) "_law_alike" ["_law_found", "_law_due"] (sp_alike (n + 1)) := by
  refine fn_body T.d_law_alike sc_law_alike (fun _ _ _ _ _ _ us hl => match us, hl with | [_, _], _ => rfl) ?_ (fun f cdv A outer s H vs Q E hr h => ?_)
  · rintro vs H Q E ⟨_, _, rfl, _⟩
    rfl
  · refine ⟨_, PSs.nox (pss_cons (ps_if (pt_val (pe_callB call_isiT rfl T.b_isinstance (by decide +kernel) (pa_cons (pv 1) (pa_cons (pe_tup (pa_cons (pe_bltn rfl T.b_tuple (by decide +kernel) (v := .ty "tuple") rfl) (pa_cons (pe_bltn rfl T.b_list (by decide +kernel) (v := .ty "list") rfl) pa_nil))) pa_nil)))) (pss_cons (ps_if (PW.pt (pw_or (pt_not (pt_val (pe_callB call_isiT rfl T.b_isinstance (by decide +kernel) (pa_cons (pv 0) (pa_cons (pe_tup (pa_cons (pe_bltn rfl T.b_tuple (by decide +kernel) (v := .ty "tuple") rfl) (pa_cons (pe_bltn rfl T.b_list (by decide +kernel) (v := .ty "list") rfl) pa_nil))) pa_nil))))) (pw_or1 (pt_cmpR op_ne (pe_callB call_isi rfl T.b_isinstance (by decide +kernel) (pa_cons (pv 0) (pa_cons (pe_bltn rfl T.b_list (by decide +kernel) (v := .ty "list") rfl) pa_nil))) (pe_callB call_isi rfl T.b_isinstance (by decide +kernel) (pa_cons (pv 1) (pa_cons (pe_bltn rfl T.b_list (by decide +kernel) (v := .ty "list") rfl) pa_nil))) (nomark _))))) (pss_one (ps_ret pe_bl)) pss_nil)
    (pss_cons (ps_if (pt_cmpR op_ne (pe_callB call_len_seq rfl T.b_len (by decide +kernel) (pa_cons (pv 0) pa_nil)) (pe_callB call_len_seq rfl T.b_len (by decide +kernel) (pa_cons (pv 1) pa_nil)) (nomark _)) (pss_one (ps_ret pe_bl)) pss_nil)
    (pss_one (ps_ret (pe_cmpR (op_eqD hr.units) (pe_lc (own := [("_law_k", 2)]) rfl sc_law_alike.nd (pi_range1 rfl T.b_range (pa_cons (pe_callB call_len_seq rfl T.b_len (by decide +kernel) (pa_cons (pv 1) pa_nil)) pa_nil)) (blkOk_by (N := N_law_alike) (sc := defScope s_law_alike) (by decide +kernel)) (fun _ _ _ _ _ => (pg_name (i := 2) sc_law_alike.nd rfl (Or.inl rfl))) (fun _ _ _ _ _ => (pts_one (pt_not (pt_val (pe_cf G_law_alike (hr.mono (Nat.le_refl _)) rfl pass00 (pa_cons (pe_ix (show IxR _ (rIxT K) from ix_tup) (pv 0) (pv 2) (fun _ _ => rfl)) (pa_cons (pe_ix (show IxR _ (rIxT K) from ix_tup) (pv 1) (pv 2) (fun _ _ => rfl)) pa_nil))))))) (fun _ _ _ _ _ => (pv 2))) (pe_lst pa_nil) (nomark _)))))) pss_nil)
    (pss_cons (ps_if (PW.pt (pw_or (pt_cmpR op_isN (pv 1) pe_non (nomark _)) (pw_or1 (pt_val (pe_callB call_isi rfl T.b_isinstance (by decide +kernel) (pa_cons (pv 1) (pa_cons (pe_bltn rfl T.b_str (by decide +kernel) (v := .ty "str") rfl) pa_nil))))))) (pss_one (ps_ret (pe_and (pe_cmpR op_eq (pv 0) (pv 1) (nomark _)) (pe_one (pe_cmpR op_eq (pe_callB call_isi rfl T.b_isinstance (by decide +kernel) (pa_cons (pv 0) (pa_cons (pe_bltn rfl T.b_str (by decide +kernel) (v := .ty "str") rfl) pa_nil))) (pe_callB call_isi rfl T.b_isinstance (by decide +kernel) (pa_cons (pv 1) (pa_cons (pe_bltn rfl T.b_str (by decide +kernel) (v := .ty "str") rfl) pa_nil))) (nomark _)))))) pss_nil)
    (pss_one (ps_ret (pe_and (pe_callB call_isi rfl T.b_isinstance (by decide +kernel) (pa_cons (pv 0) (pa_cons (pe_bltn rfl T.b_int (by decide +kernel) (v := .ty "int") rfl) pa_nil))) (pe_and (pe_cmpR op_eq (pe_callB call_isi rfl T.b_isinstance (by decide +kernel) (pa_cons (pv 0) (pa_cons (pe_bltn rfl T.b_bool (by decide +kernel) (v := .ty "bool") rfl) pa_nil))) (pe_callB call_isi rfl T.b_isinstance (by decide +kernel) (pa_cons (pv 1) (pa_cons (pe_bltn rfl T.b_bool (by decide +kernel) (v := .ty "bool") rfl) pa_nil))) (nomark _)) (pe_one (pe_cmpR op_eq (pv 0) (pv 1) (nomark _))))))))), ?_⟩
    obtain ⟨x, y, rfl, hal0, q⟩ := h
    rcases Alk.cases hal0 with hal | ⟨a, b, xs, ys, rfl, rfl, ha, hb, hlen, hp⟩
    · obtain ⟨rfl, hx⟩ := hal
      rcases hx with ⟨i, rfl⟩ | ⟨z, rfl⟩
      · refine ⟨_, rfl, ?_⟩
        refine ⟨by show 2 ≤ sizeLine; decide, fun p hp => ?_⟩
        have s1 := same_new (o := .tup [.ty "tuple", .ty "list"]) hp
        refine ⟨_, p, [.ty "tuple", .ty "list"], _, _, _, rfl, upd_same, .cons (.ty _) (.cons (.ty _) .nil), .base (.int _), kit_pair (k := false) (l := false) (by decide +kernel) (by decide +kernel), ?_⟩
        refine ⟨_, rfl, ?_⟩
        refine ifN rfl ?_
        refine ⟨_, rfl, ?_⟩
        refine ⟨rfl, ?_⟩
        refine ⟨_, rfl, ?_⟩
        refine ifN (by simp) ?_
        refine ⟨_, rfl, ?_⟩
        refine ⟨_, _, _, _, false, rfl, .ty _, .base (.int _), kit_ty (by decide +kernel), ?_⟩
        refine ⟨_, rfl, ?_⟩
        refine ifF ?_
        refine ⟨_, rfl, ?_⟩
        refine ⟨_, _, _, _, true, rfl, .ty _, .base (.int _), kit_ty (by decide +kernel), ?_⟩
        refine ⟨true, rfl, ?_⟩
        refine ifT ?_
        refine ⟨_, rfl, ?_⟩
        refine ⟨_, _, _, _, false, rfl, .ty _, .base (.int _), kit_ty (by decide +kernel), ?_⟩
        refine ⟨_, rfl, ?_⟩
        refine ⟨_, _, _, _, false, rfl, .ty _, .base (.int _), kit_ty (by decide +kernel), ?_⟩
        refine ⟨rfl, ?_⟩
        refine ⟨_, rfl, ?_⟩
        refine ifP (by decide) ?_
        refine ⟨_, rfl, ?_⟩
        refine ⟨_, rfl, ?_⟩
        refine ⟨rfl, ?_⟩
        rw [decide_eq_true rfl]
        exact q _ s1
      · refine ⟨_, rfl, ?_⟩
        refine ⟨by show 2 ≤ sizeLine; decide, fun p hp => ?_⟩
        have s1 := same_new (o := .tup [.ty "tuple", .ty "list"]) hp
        refine ⟨_, p, [.ty "tuple", .ty "list"], _, _, _, rfl, upd_same, .cons (.ty _) (.cons (.ty _) .nil), .base (.str _), kit_pair (k := false) (l := false) (by decide +kernel) (by decide +kernel), ?_⟩
        refine ⟨_, rfl, ?_⟩
        refine ifN rfl ?_
        refine ⟨_, rfl, ?_⟩
        refine ⟨rfl, ?_⟩
        refine ⟨_, rfl, ?_⟩
        refine ifN (by simp) ?_
        refine ⟨_, rfl, ?_⟩
        refine ⟨_, _, _, _, true, rfl, .ty _, .base (.str _), kit_ty (by decide +kernel), ?_⟩
        refine ⟨_, rfl, ?_⟩
        refine ifT ?_
        refine ⟨_, rfl, ?_⟩
        refine ⟨_, rfl, ?_⟩
        refine ⟨rfl, ?_⟩
        rw [decide_eq_true rfl]
        refine ⟨_, rfl, ?_⟩
        refine ifT ?_
        refine ⟨_, rfl, ?_⟩
        refine ⟨_, _, _, _, true, rfl, .ty _, .base (.str _), kit_ty (by decide +kernel), ?_⟩
        refine ⟨_, rfl, ?_⟩
        refine ⟨_, _, _, _, true, rfl, .ty _, .base (.str _), kit_ty (by decide +kernel), ?_⟩
        refine ⟨rfl, ?_⟩
        exact q _ s1
    · have hl := hp.length
      refine ⟨_, rfl, ?_⟩
      refine ⟨by show 2 ≤ sizeLine; decide, fun p1 hp1 => ?_⟩
      have s1 := same_new (o := .tup [.ty "tuple", .ty "list"]) hp1
      refine ⟨_, p1, [.ty "tuple", .ty "list"], _, _, _, rfl, upd_same, .cons (.ty _) (.cons (.ty _) .nil), .base (.tup (s1 _ _ hb)), kit_pair (k := true) (l := false) (by decide +kernel) (by decide +kernel), ?_⟩
      generalize (upd H p1 (.tup [.ty "tuple", .ty "list"])) = H1 at s1 ⊢
      refine ⟨_, rfl, ?_⟩
      refine ifP rfl ?_
      refine ⟨_, rfl, ?_⟩
      refine ⟨by show 2 ≤ sizeLine; decide, fun p2 hp2 => ?_⟩
      have s2 : Same H1 (upd H1 p2 (.tup [.ty "tuple", .ty "list"])) := same_new hp2
      refine ⟨_, p2, [.ty "tuple", .ty "list"], _, _, _, rfl, upd_same, .cons (.ty _) (.cons (.ty _) .nil), .base (.tup (s2 _ _ (s1 _ _ ha))), kit_pair (k := true) (l := false) (by decide +kernel) (by decide +kernel), ?_⟩
      have s3 := s1.trans s2
      generalize (upd H1 p2 (.tup [.ty "tuple", .ty "list"])) = H2 at s2 s3 ⊢
      have ha2 := s3 _ _ ha
      have hb2 := s3 _ _ hb
      refine ⟨_, rfl, ?_⟩
      refine ifN rfl ?_
      refine ⟨_, rfl, ?_⟩
      refine ⟨_, _, _, _, false, rfl, .ty _, .base (.tup ha2), kit_ty (by decide +kernel), ?_⟩
      refine ⟨_, rfl, ?_⟩
      refine ⟨_, _, _, _, false, rfl, .ty _, .base (.tup hb2), kit_ty (by decide +kernel), ?_⟩
      refine ⟨rfl, ?_⟩
      refine ⟨_, rfl, ?_⟩
      refine ifN (by decide) ?_
      refine ⟨_, rfl, ?_⟩
      refine ⟨_, _, rfl, .inr (.of ha2), ?_⟩
      refine ⟨_, rfl, ?_⟩
      refine ⟨_, _, rfl, .inr (.of hb2), ?_⟩
      refine ⟨rfl, ?_⟩
      refine ⟨_, rfl, ?_⟩
      refine ifN (by rw [hl]; simp) ?_
      refine ⟨_, rfl, ?_⟩
      refine ⟨_, _, rfl, .inr (.of hb2), ?_⟩
      refine ⟨_, rfl, by omega, by omega, ?_⟩
      intro D hD
      refine lc_it walk_range (PvLc H2 D fun _ acc _ => acc = []) (PvLc.zero (fun _ _ _ _ _ h => h) hD rfl) (fun _ _ _ _ => trivial) (fun i x H3 H4 hi p yy => ?_) (fun H3 p => ?_)
      · obtain ⟨acc, eD, hal, s4, rfl⟩ := p
        obtain ⟨rfl, hx⟩ := yy
        obtain rfl : x = .int (i : Int) := by rw [hx]; exact congrArg V.int (by omega)
        have hi' : i < xs.length := by omega
        obtain ⟨y, ey, aly⟩ := paired_get hp (List.getElem?_eq_getElem hi')
        have s5 := s3.trans s4
        refine ⟨rfl, ?_⟩
        refine ⟨_, rfl, ?_⟩
        refine ⟨_, rfl, ?_⟩
        refine ⟨_, _, _, _, rfl, rfl, .of (s5 _ _ ha), atI_nat (List.getElem?_eq_getElem hi'), ?_⟩
        refine ⟨_, rfl, ?_⟩
        refine ⟨_, rfl, ?_⟩
        refine ⟨_, _, _, _, rfl, rfl, .of (s5 _ _ hb), atI_nat ey, ?_⟩
        refine ⟨_, _, rfl, Alk.same s5 aly, fun H5 s6 => ?_⟩
        refine ⟨_, rfl, ?_⟩
        refine ifN rfl ?_
        exact PvLc.skip eD hal s4 s6 rfl
      · obtain ⟨acc, eD, hal, s4, rfl⟩ := p
        refine ⟨Nat.zero_le _, fun p3 hp3 => ?_⟩
        have s5 : Same H3 (upd H3 p3 (.lst [])) := same_new hp3
        refine ⟨_, _, dp_nil (s5 _ _ eD), dp_nil upd_same, shaped_nil, shaped_nil, ?_⟩
        rw [show PyData.eqv (.list []) (.list []) = true from rfl]
        exact q _ (s3.trans (s4.trans s5))
end
end K4
set_option Elab.async false
set_option linter.all false
set_option maxRecDepth 100000
set_option maxHeartbeats 400000
set_option exponentiation.threshold 10000
/-! the law's own values: lists of (long, short, count, mean) -/
namespace K4
open PySem PySem.Spec PyProof.Rows L2 K4R
structure W4 where
  a : Int
  b : Int
  c : Int
  m : Rat
/-- at u the tuple of w -/
def V4 (H : Hp) (u : Addr) (w : W4) : Prop := ∃ m, H u = some (.tup [.int w.a, .int w.b, .int w.c, .ref m]) ∧ RT H m w.m
theorem V4.kt {H H' : Hp} {u : Addr} {w : W4} (k : KT H H') (h : V4 H u w) : V4 H' u w := let ⟨m, h1, h2⟩ := h; ⟨m, k _ _ h1, h2.kt k⟩
theorem v4s_kt {H H' : Hp} {us : List Addr} {ws : List W4} (k : KT H H') (h : Paired (V4 H) us ws) : Paired (V4 H') us ws := Paired.mono (fun _ _ q => V4.kt k q) h
def enc4 (w : W4) : PyData := .tuple [.int w.a, .int w.b, .int w.c, .tuple [.int w.m.num, .int ((w.m.den : Nat) : Int)]]
theorem V4.dp {K : PySem.W.Frag} {H : Hp} {u : Addr} {w : W4} (h : V4 H u w) : Dp K H (.ref u) (enc4 w) := by
  obtain ⟨m, h1, h2⟩ := h
  exact .tup (.of h1) (.cons (.int _) (.cons (.int _) (.cons (.int _) (.cons (.tup (.of h2) (.cons (.int _) (.cons (.int _) .nil))) .nil))))
theorem dp_v4s {K : PySem.W.Frag} {H : Hp} : ∀ {us : List Addr} {ws : List W4}, Paired (V4 H) us ws → DpAll K H (us.map V.ref) (ws.map enc4)
  | _, _, .nil => .nil
  | _, _, .cons h t => .cons h.dp (dp_v4s t)
theorem shaped_v4s (ws : List W4) : SeqAt.shaped (.list (ws.map enc4)) = true := by
  have h1 : ∀ ws : List W4, PyData.canLayAll0 (ws.map enc4) = true := fun ws => by
    induction ws with
    | nil => rfl
    | cons w ws ih =>
      show (PyData.canLay0 (enc4 w) && PyData.canLayAll0 (ws.map enc4)) = true
      rw [ih]
      rfl
  have h2 : ∀ ws : List W4, PyData.depthAll (ws.map enc4) ≤ 4 := fun ws => by
    induction ws with
    | nil => simp [PyData.depthAll]
    | cons w ws ih =>
      have e : (enc4 w).depth ≤ 4 := by
        unfold enc4
        simp [PyData.depth, PyData.depthAll]
      simp only [List.map_cons, PyData.depthAll]
      omega
  have h3 : PyData.canLay0 (.list (ws.map enc4)) = true := by
    simp only [PyData.canLay0]
    exact h1 ws
  have h4 : (PyData.list (ws.map enc4)).depth ≤ 64 := by
    have := h2 ws
    simp only [PyData.depth]
    omega
  unfold SeqAt.shaped
  rw [h3, decide_eq_true h4]
  rfl
section
variable {K : PySem.W.Frag} {σ : L2.St} {H : Hp} {l : Addr} {us : List Addr} {ws : List W4}
theorem dp_some (el : H l = some (.lst (us.map V.ref))) (h : Paired (V4 H) us ws) : Dp K H (.ref l) (.list (ws.map enc4)) := .lst (.of el) (dp_v4s h)
/-- some != [], some == [] -/
theorem ne_ok {Q : Bool → Hp → Prop} (h11 : σ[11]? = some (some (.ref l))) (el : H l = some (.lst (us.map V.ref))) (h : Paired (V4 H) us ws) (q : ∀ H', Same H H' → Q (!decide (ws = [])) H') : tTest (tOp (rNeD K) (tVar 11) (tLst tNil)) σ H Q := by
  refine ⟨_, h11, ?_⟩
  refine ⟨Nat.zero_le _, fun p hp => ?_⟩
  have s1 : Same H (upd H p (.lst [])) := same_new hp
  refine ⟨_, _, dp_some (s1 _ _ el) (v4s_kt (KT.of s1) h), dp_nil upd_same, shaped_v4s _, shaped_nil, ?_⟩
  rw [eqv_nil]
  refine ⟨_, rfl, ?_⟩
  have e : decide (ws.map enc4 = []) = decide (ws = []) := by rw [Bool.eq_iff_iff, decide_eq_true_iff, decide_eq_true_iff, List.map_eq_nil_iff]
  rw [e]
  exact q _ s1
theorem eq_ok {Q : Bool → Hp → Prop} (h11 : σ[11]? = some (some (.ref l))) (el : H l = some (.lst (us.map V.ref))) (h : Paired (V4 H) us ws) (q : ∀ H', Same H H' → Q (decide (ws = [])) H') : tTest (tOp (rEqD K) (tVar 11) (tLst tNil)) σ H Q := by
  refine ⟨_, h11, ?_⟩
  refine ⟨Nat.zero_le _, fun p hp => ?_⟩
  have s1 : Same H (upd H p (.lst [])) := same_new hp
  refine ⟨_, _, dp_some (s1 _ _ el) (v4s_kt (KT.of s1) h), dp_nil upd_same, shaped_v4s _, shaped_nil, ?_⟩
  rw [eqv_nil]
  refine ⟨_, rfl, ?_⟩
  have e : decide (ws.map enc4 = []) = decide (ws = []) := by rw [Bool.eq_iff_iff, decide_eq_true_iff, decide_eq_true_iff, List.map_eq_nil_iff]
  rw [e]
  exact q _ s1
/-- [one[j] for one in some] -/
def colT (K : PySem.W.Frag) (j : Int) : TE := tLc (iList K (tVar 11)) (gName 13) tYes (tOp (rIxT K) (tVar 13) (tC (.int j))) [13]
theorem col_ok {j : Int} {f : W4 → Int} {Q : VK} (hj : ∀ (w : W4) (m : Addr), atI [V.int w.a, V.int w.b, V.int w.c, V.ref m] j = some (.int (f w))) (hlen : 13 < σ.length) (h11 : σ[11]? = some (some (.ref l))) (el : H l = some (.lst (us.map V.ref))) (h : Paired (V4 H) us ws) (hl : us.length ≤ 100)
    (q : ∀ D H', Same H H' → H D = none → H' D = some (.lst ((ws.map f).map V.int)) → Q (.ref D) H') : colT K j σ H Q := by
  refine ⟨_, h11, ?_⟩
  refine ⟨_, rfl, ⟨_, .of el⟩, ?_⟩
  intro D hD
  have hwl := h.length
  refine lc_it (walk_list (xs := us.map V.ref)) (PvLc H D (RN fun i => (ws.take i).map f)) (PvLc.zero RN.st hD rfl) (fun i H2 _ p => ?_) (fun i x H2 H3 hi p y => ?_) (fun H2 p => ?_)
  · obtain ⟨acc, eD, hal, s1, hr⟩ := p
    exact .of (s1 _ _ el)
  · obtain ⟨acc, eD, hal, s1, hr⟩ := p
    obtain ⟨rfl, hx⟩ := y
    rw [List.getElem?_map] at hx
    obtain ⟨u, eu, rfl⟩ := Option.map_eq_some_iff.mp hx
    obtain ⟨w, ew, m, h1, h2⟩ := paired_get h eu
    refine ⟨?_, ?_⟩
    · show ((σ.set 13 none).set 13 (some (.ref u))).set 13 none = σ.set 13 none
      rw [List.set_set, List.set_set]
    · show tOp (rIxT K) (tVar 13) (tC (.int j)) ((σ.set 13 none).set 13 (some (.ref u))) H3 _
      refine ⟨.ref u, by rw [List.getElem?_set_self (by rw [List.length_set]; exact hlen)], ?_⟩
      refine ⟨_, _, _, _, rfl, rfl, .of (s1 _ _ h1), hj w m, ?_⟩
      have hr' : acc = ((ws.take i).map f).map V.int := hr
      refine PvLc.put RN.st hD eD hal s1 (Same.refl _) ?_ (by rw [List.length_map] at hi; omega)
      show acc ++ [.int (f w)] = ((ws.take (i + 1)).map f).map V.int
      rw [hr', take_succ_get ew, List.map_append, List.map_append]
      rfl
  · obtain ⟨acc, eD, hal, s1, hr⟩ := p
    have hr' : acc = ((ws.take (us.map V.ref).length).map f).map V.int := hr
    rw [List.take_of_length_le (by rw [List.length_map]; omega)] at hr'
    subst hr'
    exact q D _ s1 hD eD
theorem mean0_ok {c : Bool} {R : VK} (q : ∀ pm H6, Same H H6 → RT H6 pm (if c = true then (0 : Rat) else 1) → R (.ref pm) H6) :
    if c = true then tTup (tCons (tC (.int 0)) (tCons (tC (.int 1)) tNil)) σ H R else tTup (tCons (tC (.int 1)) (tCons (tC (.int 1)) tNil)) σ H R := by
  cases c with
  | true =>
    refine ifT ?_
    refine ⟨by show 2 ≤ sizeLine; decide, fun p hp => q p _ (same_new hp) ?_⟩
    rw [if_pos rfl]
    exact upd_same
  | false =>
    refine ifF ?_
    refine ⟨by show 2 ≤ sizeLine; decide, fun p hp => q p _ (same_new hp) ?_⟩
    rw [if_neg Bool.false_ne_true]
    exact upd_same
def longT (K : PySem.W.Frag) : TE := tIf (tTest (tOp (rNeD K) (tVar 11) (tLst tNil))) (tOp (rI0 fun i j => .int (i + j)) (tCB (rMax K) (tCons (colT K 0) tNil)) (tC (.int 1))) (tC (.int 0))
def shortT (K : PySem.W.Frag) : TE := tIf (tTest (tOp (rNeD K) (tVar 11) (tLst tNil))) (tOp (rI0 fun i j => .int (i + j)) (tCB (rMin K) (tCons (colT K 1) tNil)) (tC (.int 1))) (tC (.int 0))
def countT (K : PySem.W.Frag) : TE := tIf (tTest (tOp (rNeD K) (tVar 11) (tLst tNil))) (tCB (rSum K) (tCons (colT K 2) tNil)) (tC (.int 1))
theorem long_ok {Q : VK} (hlen : 13 < σ.length) (h11 : σ[11]? = some (some (.ref l))) (el : H l = some (.lst (us.map V.ref))) (h : Paired (V4 H) us ws) (hl : us.length ≤ 100) (nn : ∀ v ∈ ws.map W4.a, 0 ≤ v) (q : ∀ H', Same H H' → Q (.int (combL (ws.map W4.a))) H') : longT K σ H Q := by
  refine ne_ok h11 el h fun H1 s1 => ?_
  refine ifB (fun e => ?_) (fun e => ?_)
  · have hne : ws ≠ [] := fun z => by
      rw [z] at e
      simp at e
    dsimp only [tOp, tCB, tCons]
    refine col_ok (K := K) (j := 0) (f := W4.a) (fun _ _ => rfl) hlen h11 (s1 _ _ el) (v4s_kt (KT.of s1) h) hl fun D H2 s2 hD eD => ?_
    refine ⟨D, ws.map W4.a, rfl, .of eD, by rw [List.length_map]; exact List.length_pos_iff.mpr hne, fun mx h1 h2 => ?_⟩
    refine ⟨_, _, rfl, rfl, ?_⟩
    show Q (.int (mx + 1)) H2
    rw [max_law nn h1 h2]
    exact q _ (s1.trans s2)
  · have h0 : ws = [] := by simpa using e
    have q0 := q _ s1
    rw [h0] at q0
    exact q0
theorem short_ok {Q : VK} (hlen : 13 < σ.length) (h11 : σ[11]? = some (some (.ref l))) (el : H l = some (.lst (us.map V.ref))) (h : Paired (V4 H) us ws) (hl : us.length ≤ 100) (q : ∀ H', Same H H' → Q (.int (combS (ws.map W4.b))) H') : shortT K σ H Q := by
  refine ne_ok h11 el h fun H1 s1 => ?_
  refine ifB (fun e => ?_) (fun e => ?_)
  · have hne : ws ≠ [] := fun z => by
      rw [z] at e
      simp at e
    dsimp only [tOp, tCB, tCons]
    refine col_ok (K := K) (j := 1) (f := W4.b) (fun _ _ => rfl) hlen h11 (s1 _ _ el) (v4s_kt (KT.of s1) h) hl fun D H2 s2 hD eD => ?_
    refine ⟨D, ws.map W4.b, rfl, .of eD, by rw [List.length_map]; exact List.length_pos_iff.mpr hne, fun mx h1 h2 => ?_⟩
    refine ⟨_, _, rfl, rfl, ?_⟩
    show Q (.int (mx + 1)) H2
    rw [min_is h1 h2]
    exact q _ (s1.trans s2)
  · have h0 : ws = [] := by simpa using e
    have q0 := q _ s1
    rw [h0] at q0
    exact q0
theorem count_ok {Q : VK} (hlen : 13 < σ.length) (h11 : σ[11]? = some (some (.ref l))) (el : H l = some (.lst (us.map V.ref))) (h : Paired (V4 H) us ws) (hl : us.length ≤ 100) (q : ∀ H', Same H H' → Q (.int (combC (ws.map W4.c))) H') : countT K σ H Q := by
  refine ne_ok h11 el h fun H1 s1 => ?_
  refine ifB (fun e => ?_) (fun e => ?_)
  · have hne : ws ≠ [] := fun z => by
      rw [z] at e
      simp at e
    dsimp only [tOp, tCB, tCons]
    refine col_ok (K := K) (j := 2) (f := W4.c) (fun _ _ => rfl) hlen h11 (s1 _ _ el) (v4s_kt (KT.of s1) h) hl fun D H2 s2 hD eD => ?_
    refine ⟨D, ws.map W4.c, rfl, .of eD, ?_⟩
    have q0 := q _ (s1.trans s2)
    unfold combC at q0
    rw [if_neg (fun z => hne (List.map_eq_nil_iff.mp z))] at q0
    exact q0
  · have h0 : ws = [] := by simpa using e
    have q0 := q _ s1
    rw [h0] at q0
    exact q0
end
end K4
set_option Elab.async false
set_option linter.all false
set_option maxRecDepth 100000
set_option maxHeartbeats 1000000
set_option exponentiation.threshold 10000
/-! the law -/
namespace K4
open PySem PySem.Spec PyProof.Rows L2 K4R
/-- NotEnding in an except clause of PairError -/
structure NotE2 (K : PySem.W.Frag) (mg : Str → Option Value) (C B : Addr) : Prop where
  gP : mg "PairError" = some (.ref B)
  ex : PySem.W.exmOne K (.ref C) (.ref B) = some true
  ec : ExcC K C
  is : PySem.W.kitOne K (.ref C) (.ref C) = some true
def rIsE2 (K : PySem.W.Frag) (a : Addr) (cls : Value) (d : Option Addr) : List V → Hp → VK → Prop := fun xs H Q => ∃ D, cls = .ref D ∧ d = none ∧ ExcC K D ∧ rIsE K D a xs H Q
theorem call_isE2 {X : Cx} {a : Addr} {cls : Value} {d : Option Addr} {oe : Obj} {pn : List (Addr × Obj)} (hz : Zc cls d oe) (hf : ∃ vs, oe.data = .fields vs) : CallR (X.suite a ((a, oe) :: pn)) (.builtin "isinstance") (rIsE2 X.K a cls d) := by
  intro pins s σ H xs us Q I r h
  obtain ⟨D, rfl, rfl, C, h⟩ := h
  exact call_isE C hz hf pins s σ H xs us Q I r h
def args3 : TA := tCons (tVar 2) (tCons (tVar 3) (tCons (tVar 5) tNil))
def tryT (C : Addr) : WX → TS := fun W => tAsg (tTup (tCons (tCallS (sp_int C combL) (WE W) args3) (tCons (tCallS (sp_int C combS) (WE W) args3) (tCons (tCallS (sp_int C combC) (WE W) args3) (tCons (tCallS (sp_mean C) (WE W) args3) tNil))))) (gName 4)
def suiteT (K : PySem.W.Frag) (C : Addr) : Addr → Value → Option Addr → TS := fun a cls d => tAsg (tIf (tB (tCB (rIsE2 K a cls d) (tCons (tVar 16) (tCons (tC (.ref C)) tNil)))) (tC (.str "ending")) (tC (.str "other"))) (gName 4)
section
variable {P : Program} {w : World} {K : PySem.W.Frag} {mg : Str → Option Value} {base : Heap} {C B : Addr}
def sp_law (K : PySem.W.Frag) : Sp := fun vs H Q _ => ∃ (a : Addr) (ns : List Int), vs = [.ref a] ∧ ScrL K H a (ns.map V.int) ∧ ∀ H', Q (.bl true) H'
/-- behind the first part: what is due -/
def LawM (Hc : Hp) (a r t b c : Addr) (ks es : List (List Int)) (S : List Int) : L2.St → Hp → Prop := fun σ H => Same Hc H ∧ ∃ (due : V) (o6 o7 o9 o10 o11 o12 o13 o14 o15 o16 o17 : Option V),
  σ = [some (.ref a), some (.ref r), some (.ref t), some (.ref b), some .non, some (.ref c), o6, o7, some due, o9, o10, o11, o12, o13, o14, o15, o16, o17] ∧
  (¬ Term ks es S → due = .str "ending") ∧ (Term ks es S → ∃ u w, due = .ref u ∧ V4 H u w ∧ Val ks es combL S w.a ∧ Val ks es combS S w.b ∧ Val ks es combC S w.c ∧ Val ks es combM S w.m)
def FoundV (ks es : List (List Int)) (H : Hp) (lf : List (List Int × V)) (S : List (List Int)) (D i : Nat) : Prop := ∀ k ∈ S, ∃ (u : Addr) (w : W4), valV lf k = some (.ref u) ∧ V4 H u w ∧ Val ks es combL k w.a ∧ Val ks es combS k w.b ∧ Val ks es combC k w.c ∧ Val ks es combM k w.m ∧ BM D i w.m
theorem FoundV.kt {ks es : List (List Int)} {H H' : Hp} {lf : List (List Int × V)} {S : List (List Int)} {D i : Nat} (kt : KT H H') (h : FoundV ks es H lf S D i) : FoundV ks es H' lf S D i := fun k hk => let ⟨u, v, h1, h2, h3⟩ := h k hk; ⟨u, v, h1, h2.kt kt, h3⟩
theorem FoundV.put {ks es : List (List Int)} {H : Hp} {lf : List (List Int × V)} {S : List (List Int)} {D D2 i : Nat} {k : List Int} {u : Addr} {w : W4} (h : FoundV ks es H lf S D i) (up : ∀ r, BM D i r → BM D2 (i + 1) r) (hr : V4 H u w) (h1 : Val ks es combL k w.a) (h2 : Val ks es combS k w.b) (h3 : Val ks es combC k w.c) (h4 : Val ks es combM k w.m) (hb : BM D2 (i + 1) w.m) :
    FoundV ks es H (putK lf k (.ref u)) (S ++ [k]) D2 (i + 1) := fun z hz => by
  rw [valV_put]
  by_cases e : z = k
  · rw [if_pos e, e]
    exact ⟨u, w, rfl, hr, h1, h2, h3, h4, hb⟩
  · rw [if_neg e]
    rcases List.mem_append.mp hz with hz | hz
    · obtain ⟨u, v, g1, g2, g3, g4, g5, g6, g7⟩ := h z hz
      exact ⟨u, v, g1, g2, g3, g4, g5, g6, up _ g7⟩
    · exact absurd (List.mem_singleton.mp hz) e
theorem paired_map2 {α β γ : Type} {F : α → β → Prop} {l : List γ} {f : γ → α} {g : γ → β} (h : ∀ x ∈ l, F (f x) (g x)) : Paired F (l.map f) (l.map g) := by
  induction l with
  | nil => exact .nil
  | cons x l ih => exact .cons (h x (List.mem_cons_self ..)) (ih fun y hy => h y (List.mem_cons_of_mem _ hy))
theorem try_ok (NE : NotE K mg C) (NE2 : NotE2 K mg C B) {Hc H' : Hp} {σ : L2.St} {a r t b c : Addr} {n m : Int} {ks es : List (List Int)} {S : List Int} {Q : VK} (o : Ok n m ks es) (so : SOk n m S) (tabt : TabAt Hc t n ks) (tabw : TabAt Hc b m es) (ic : IT Hc c S) (q : ∀ H', Q (.bl true) H') (hM : LawM Hc a r t b c ks es S σ H') :
    tSeq (fun D σ H1 => tryT C (wAs K (.ref B) 16 (suiteT K C) (fun _ _ _ _ => False) D) D σ H1) (tRet (tCallF (sp_alike 2) (fun _ _ _ => False) (tCons (tVar 4) (tCons (tVar 8) tNil)))) { nx := fun _ H' => Q .non H', rt := Q } σ H' := by
  obtain ⟨s0, due, o6, o7, o9, o10, o11, o12, o13, o14, o15, o16, o17, rfl, hN, hT⟩ := hM
  refine ⟨_, rfl, ?_⟩
  refine ⟨_, rfl, ?_⟩
  refine ⟨_, rfl, ?_⟩
  refine ⟨_, _, _, _, _, _, _, _, rfl, tabt.kt (KT.of s0), tabw.kt (KT.of s0), IT.kt (KT.of s0) ic, o, so, fun H1 s1 nt => ⟨true, NE2.ex, fun _ e he => ?_, fun z => nomatch z⟩, fun v1 H1 s1 ht vl => ?_⟩
  · refine ⟨_, rfl, ?_⟩
    refine ⟨C, rfl, rfl, NE2.ec, .ref C, .ref C, true, rfl, fun u hu => hu, NE2.is, ?_⟩
    refine ⟨_, rfl, ?_⟩
    refine ifT ?_
    obtain rfl := hN nt
    refine ⟨_, rfl, ?_⟩
    refine ⟨_, rfl, ?_⟩
    refine ⟨_, _, rfl, .inl (.inl ⟨rfl, .inr ⟨_, rfl⟩⟩), fun H2 _ => q H2⟩
  obtain ⟨u, w4, rfl, hv4, d1, d2, d3, d4⟩ := hT ht
  have s01 := s0.trans s1
  refine ⟨_, rfl, ?_⟩
  refine ⟨_, rfl, ?_⟩
  refine ⟨_, rfl, ?_⟩
  refine ⟨_, _, _, _, _, _, _, _, rfl, tabt.kt (KT.of s01), tabw.kt (KT.of s01), IT.kt (KT.of s01) ic, o, so, fun H2 s2 nt => absurd ht nt, fun v2 H2 s2 _ vs => ?_⟩
  have s02 := s01.trans s2
  refine ⟨_, rfl, ?_⟩
  refine ⟨_, rfl, ?_⟩
  refine ⟨_, rfl, ?_⟩
  refine ⟨_, _, _, _, _, _, _, _, rfl, tabt.kt (KT.of s02), tabw.kt (KT.of s02), IT.kt (KT.of s02) ic, o, so, fun H3 s3 nt => absurd ht nt, fun v3 H3 s3 _ vc => ?_⟩
  have s03 := s02.trans s3
  refine ⟨_, rfl, ?_⟩
  refine ⟨_, rfl, ?_⟩
  refine ⟨_, rfl, ?_⟩
  refine ⟨_, _, _, _, _, _, _, _, rfl, tabt.kt (KT.of s03), tabw.kt (KT.of s03), IT.kt (KT.of s03) ic, o, so, fun H4 s4 nt => absurd ht nt, fun u4 v4 H4 s4 _ ru vm => ?_⟩
  refine ⟨by show 4 ≤ sizeLine; decide, fun p hp => ?_⟩
  have s5 : Same H4 (upd H4 p (.tup [.int v1, .int v2, .int v3, .ref u4])) := same_new hp
  have ep : (upd H4 p (.tup [.int v1, .int v2, .int v3, .ref u4])) p = some (.tup [.int v1, .int v2, .int v3, .ref u4]) := upd_same
  refine ⟨_, rfl, ?_⟩
  refine ⟨_, rfl, ?_⟩
  have hv := hv4.kt (KT.of (s1.trans (s2.trans (s3.trans (s4.trans s5)))))
  obtain ⟨mm, hu, hm⟩ := hv
  rw [← vl.det d1, ← vs.det d2, ← vc.det d3] at hu
  rw [← vm.det d4] at hm
  refine ⟨_, _, rfl, .inr ⟨p, u, _, _, rfl, rfl, ep, hu, by show 4 ≤ 100; decide, ?_⟩, fun H5 _ => q H5⟩
  refine .cons (.inl ⟨rfl, .inl ⟨_, rfl⟩⟩) (.cons (.inl ⟨rfl, .inl ⟨_, rfl⟩⟩) (.cons (.inl ⟨rfl, .inl ⟨_, rfl⟩⟩) (.cons (.inr ⟨u4, mm, _, _, rfl, rfl, s5 _ _ ru, hm, by show 2 ≤ 100; decide, ?_⟩) .nil)))
  exact .cons ⟨rfl, .inl ⟨_, rfl⟩⟩ (.cons ⟨rfl, .inl ⟨_, rfl⟩⟩ .nil)
theorem ok_law (T : Txt K mg) (NE : NotE K mg C) (NE2 : NotE2 K mg C B) (G_law_pick : FnAt P w K mg base CX0 2 "_law_pick" ["_law_row", "_law_things"] (sp_pick K)) (G_law_table : FnAt P w K mg base CX0 3 "_law_table" ["_law_row", "_law_most"] (sp_table K)) (G_law_falling : FnAt P w K mg base CX0 3 "_law_falling" ["_law_row", "_law_most"] (sp_table K))
    (G_law_web : FnAt P w K mg base CX0 2 "_law_web" ["_law_row", "_law_most"] (sp_web K)) (G_law_kinds : FnAt P w K mg base CX0 2 "_law_kinds" ["_law_row", "_law_many", "_law_kinds_here"] (sp_kinds K)) (G_law_walk : FnAt P w K mg base CX0 3 "_law_walk" ["_law_table_here", "_law_web_here", "_law_start"] sp_walk) (G_law_layers : FnAt P w K mg base CX0 1 "_law_layers" ["_law_told"] sp_order)
    (G_law_ratio : FnAt P w K mg base CX0 2 "_law_ratio" ["_law_numerator", "_law_denominator"] sp_ratio) (G_law_plus : FnAt P w K mg base CX0 3 "_law_plus" ["_law_one", "_law_other"] (sp_bin fun r s => r + s)) (G_law_alike : FnAt P w K mg base CX0 3 "_law_alike" ["_law_found", "_law_due"] (sp_alike 2))
    (G_longest : FnAt P w K mg base (L2.CX P w) 6 "longest" ["table", "web", "kinds"] (sp_int C combL)) (G_shortest : FnAt P w K mg base (L2.CX P w) 6 "shortest" ["table", "web", "kinds"] (sp_int C combS)) (G_run_count : FnAt P w K mg base (L2.CX P w) 6 "run_count" ["table", "web", "kinds"] (sp_int C combC)) (G_mean_moves : FnAt P w K mg base (L2.CX P w) 6 "mean_moves" ["table", "web", "kinds"] (sp_mean C)) :
    FnAt P w K mg base CX0 7 "law" ["_law_script"] (sp_law K) := by
  refine fn_body T.d_law sc_law (fun _ _ _ _ _ _ us hl => match us, hl with | [_], _ => rfl) ?_ (fun f cdv A outer s H vs Q E hr h => ?_)
  · rintro vs H Q E ⟨_, _, rfl, _⟩
    rfl
  · refine ⟨_, PSs.nox (pss_cons (ps_set (i := 1) sc_law.nd rfl (Or.inl rfl) (pe_lst (pa_cons (pv 0) (pa_cons pe_int (pa_cons pe_int (pa_cons pe_int pa_nil))))))
    (pss_cons (ps_par3 (i := 2) (j := 3) (l := 4) rfl sc_law.nd rfl rfl rfl (by decide) (by decide) (by decide) rfl rfl rfl (pa_cons (pe_cf G_law_pick (hr.mono (by decide)) rfl pass00 (pa_cons (pv 1) (pa_cons (pe_lst (pa_cons (pe_cf G_law_table (hr.mono (by decide)) rfl pass00 (pa_cons (pv 1) (pa_cons pe_int pa_nil))) (pa_cons (pe_cf G_law_falling (hr.mono (by decide)) rfl pass00 (pa_cons (pv 1) (pa_cons pe_int pa_nil))) pa_nil))) pa_nil))) (pa_cons (pe_cf G_law_web (hr.mono (by decide)) rfl pass00 (pa_cons (pv 1) (pa_cons pe_int pa_nil))) (pa_cons pe_non pa_nil))) rfl)
    (pss_cons (ps_set (i := 5) sc_law.nd rfl (Or.inl rfl) (pe_cf G_law_kinds (hr.mono (by decide)) rfl pass00 (pa_cons (pv 1) (pa_cons (pe_ix ix_tup (pv 3) pe_int (fun _ _ => rfl)) (pa_cons (pe_ix ix_tup (pv 2) pe_int (fun _ _ => rfl)) pa_nil)))))
    (pss_cons (ps_set (i := 6) sc_law.nd rfl (Or.inl rfl) (pe_cf G_law_walk (hr.mono (by decide)) rfl pass00 (pa_cons (pv 2) (pa_cons (pv 3) (pa_cons (pv 5) pa_nil)))))
    (pss_cons (ps_par (i := 7) (j := 8) rfl sc_law.nd rfl rfl (by decide) rfl rfl (pa_cons (pe_cf G_law_layers (hr.mono (by decide)) rfl pass00 (pa_cons (pv 6) pa_nil)) (pa_cons pe_str pa_nil)) rfl)
    (C8.pss_cut (ps_if (pt_cmpR op_notN (pv 7) pe_non (nomark _)) (pss_cons (ps_set (i := 9) sc_law.nd rfl (Or.inr rfl) pe_dnewT)
    (pss_cons (ps_for PassesOwn.never rfl (pi_list (pv 7)) (pg_name (i := 10) sc_law.nd rfl (Or.inl rfl))
    (pss_cons (ps_setLc (i := 11) (own := [("_law_there", 17)]) rfl sc_law.nd rfl rfl (sw_true rfl rfl rfl (by decide +kernel)) (pi_list (pe_dget (hu_of hr) (pv 6) (pv 10) (fun _ _ => rfl))) (blkOk_by (N := N_law) (sc := defScope s_law) (by decide +kernel)) (fun _ _ _ _ _ => (pg_name (i := 17) sc_law.nd rfl (Or.inl rfl))) (fun _ _ _ _ _ => pts_nil) (fun _ _ _ _ _ => (pe_dget (hu_of hr) (pv 9) (pv 17) (fun _ _ => rfl))))
    (pss_cons (ps_set (i := 12) sc_law.nd rfl (Or.inl rfl) (pe_ifExp (pt_cmpR (op_eqD hr.units) (pv 11) (pe_lst pa_nil) (nomark _)) (pe_tup (pa_cons pe_int (pa_cons pe_int pa_nil))) (pe_tup (pa_cons pe_int (pa_cons pe_int pa_nil)))))
    (pss_cons (ps_for PassesOwn.never rfl (pi_list (pv 11)) (pg_name (i := 13) sc_law.nd rfl (Or.inl rfl))
    (pss_one (ps_set (i := 12) sc_law.nd rfl (Or.inl rfl) (pe_cf G_law_plus (hr.mono (by decide)) rfl pass00 (pa_cons (pv 12) (pa_cons (pe_cf G_law_ratio (hr.mono (by decide)) rfl pass00 (pa_cons (pe_ix ix_tup (pe_ix ix_tup (pv 13) pe_int (fun _ _ => rfl)) pe_int (fun _ _ => rfl)) (pa_cons (pe_op op_mulW (pe_ix ix_tup (pe_ix ix_tup (pv 13) pe_int (fun _ _ => rfl)) pe_int (fun _ _ => rfl)) (pe_callB call_len_seq rfl T.b_len (by decide +kernel) (pa_cons (pv 11) pa_nil))) pa_nil))) pa_nil))))))
    (pss_cons (ps_set (i := 14) sc_law.nd rfl (Or.inl rfl) (pe_ifExp (pt_cmpR (op_neD hr.units) (pv 11) (pe_lst pa_nil) (nomark _)) (pe_op op_add (pe_callB (cr_max rfl) rfl T.b_max (by decide +kernel) (pa_cons (pe_lc (own := [("_law_one", 13)]) rfl sc_law.nd (pi_list (pv 11)) (blkOk_by (N := N_law) (sc := defScope s_law) (by decide +kernel)) (fun _ _ _ _ _ => (pg_name (i := 13) sc_law.nd rfl (Or.inl rfl))) (fun _ _ _ _ _ => pts_nil) (fun _ _ _ _ _ => (pe_ix (show IxR _ (rIxT K) from ix_tup) (pv 13) pe_int (fun _ _ => rfl)))) pa_nil)) pe_int) pe_int))
    (pss_cons (ps_set (i := 15) sc_law.nd rfl (Or.inl rfl) (pe_ifExp (pt_cmpR (op_neD hr.units) (pv 11) (pe_lst pa_nil) (nomark _)) (pe_op op_add (pe_callB (cr_min rfl) rfl T.b_min (by decide +kernel) (pa_cons (pe_lc (own := [("_law_one", 13)]) rfl sc_law.nd (pi_list (pv 11)) (blkOk_by (N := N_law) (sc := defScope s_law) (by decide +kernel)) (fun _ _ _ _ _ => (pg_name (i := 13) sc_law.nd rfl (Or.inl rfl))) (fun _ _ _ _ _ => pts_nil) (fun _ _ _ _ _ => (pe_ix (show IxR _ (rIxT K) from ix_tup) (pv 13) pe_int (fun _ _ => rfl)))) pa_nil)) pe_int) pe_int))
    (pss_one (ps_dput (hu_of hr) (pv 9) (pv 10) (pe_tup (pa_cons (pv 14) (pa_cons (pv 15) (pa_cons (pe_ifExp (pt_cmpR (op_neD hr.units) (pv 11) (pe_lst pa_nil) (nomark _)) (pe_callB (cr_sum rfl) rfl T.b_sum (by decide +kernel) (pa_cons (pe_lc (own := [("_law_one", 13)]) rfl sc_law.nd (pi_list (pv 11)) (blkOk_by (N := N_law) (sc := defScope s_law) (by decide +kernel)) (fun _ _ _ _ _ => (pg_name (i := 13) sc_law.nd rfl (Or.inl rfl))) (fun _ _ _ _ _ => pts_nil) (fun _ _ _ _ _ => (pe_ix (show IxR _ (rIxT K) from ix_tup) (pv 13) pe_int (fun _ _ => rfl)))) pa_nil)) pe_int) (pa_cons (pv 12) pa_nil))))) rfl))))))))
    (pss_one (ps_set (i := 8) sc_law.nd rfl (Or.inl rfl) (pe_dget (hu_of hr) (pv 9) (pv 5) (fun _ _ => rfl)))))) pss_nil)
    (pss_cons (ps_try_as (i := 16) (tb := tryT C) (ts := suiteT K C) (Wout := fun _ _ _ _ => False) rfl rfl sc_law.nd rfl rfl ⟨rfl, by decide, Or.inl NE2.gP⟩ takes0
    (fun W pn xe tk _ => (pss_one (ps_set (i := 4) sc_law.nd rfl (Or.inl rfl) (pe_tup (pa_cons (pe_cfS G_longest (hr.mono (by decide)) rfl (fun σ => passAt tk σ) (pa_cons (pv 2) (pa_cons (pv 3) (pa_cons (pv 5) pa_nil)))) (pa_cons (pe_cfS G_shortest (hr.mono (by decide)) rfl (fun σ => passAt tk σ) (pa_cons (pv 2) (pa_cons (pv 3) (pa_cons (pv 5) pa_nil)))) (pa_cons (pe_cfS G_run_count (hr.mono (by decide)) rfl (fun σ => passAt tk σ) (pa_cons (pv 2) (pa_cons (pv 3) (pa_cons (pv 5) pa_nil)))) (pa_cons (pe_cfS G_mean_moves (hr.mono (by decide)) rfl (fun σ => passAt tk σ) (pa_cons (pv 2) (pa_cons (pv 3) (pa_cons (pv 5) pa_nil)))) pa_nil))))))))
    (fun a oe cls d pn hz hf => (pss_one (ps_set (i := 4) sc_law.nd rfl (Or.inl rfl) (pe_ifExp (pt_val (pe_callB (call_isE2 hz hf) rfl T.b_isinstance (by decide +kernel) (pa_cons (pv 16) (pa_cons (pe_glob rfl NE.gC (v := .ref C) rfl) pa_nil)))) pe_str pe_str)))))
    (pss_one (ps_ret (pe_cf G_law_alike (hr.mono (by decide)) rfl pass00 (pa_cons (pv 4) (pa_cons (pv 8) pa_nil)))))))))))), ?_⟩
    obtain ⟨a, ns, rfl, hsc, q⟩ := h
    -- the draws
    refine ⟨_, rfl, ?_⟩
    refine ⟨by show 4 ≤ sizeLine; decide, fun r hr0 => ?_⟩
    have s1 : Same H (upd H r (.lst [.ref a, .int 0, .int 10104, .int 0])) := same_new hr0
    have ra1 : RowAt K (upd H r (.lst [.ref a, .int 0, .int 10104, .int 0])) r := ⟨a, ns, 0, 10104, 0, upd_same, hsc.same s1, by omega⟩
    show tSeq _ _ _ _ (upd H r (.lst [.ref a, .int 0, .int 10104, .int 0]))
    generalize (upd H r (.lst [.ref a, .int 0, .int 10104, .int 0])) = H1 at s1 ra1 ⊢
    refine ⟨_, rfl, ?_⟩
    refine ⟨_, rfl, ?_⟩
    refine ⟨_, rfl, ra1, fun t1 m1 ks1 H2 f2 ra2 nt1 tab1 tok1 m41 kl1 => ?_⟩
    refine ⟨_, rfl, ?_⟩
    refine ⟨_, rfl, ra2, fun t2 m2 ks2 H3 f3 ra3 nt2 tab2 tok2 m42 kl2 => ?_⟩
    obtain ⟨ys2, hys2⟩ := ra2.lst
    have tab1' := tab1.kt (f3.kt hys2)
    refine ⟨by show 2 ≤ sizeLine; decide, fun l hl => ?_⟩
    have s4 : Same H3 (upd H3 l (.lst [.ref t1, .ref t2])) := same_new hl
    have el4 : (upd H3 l (.lst [.ref t1, .ref t2])) l = some (.lst [.ref t1, .ref t2]) := upd_same
    have hlr : l ≠ r := fun z => by
      obtain ⟨zs, hzs⟩ := ra3.lst
      rw [z, hzs] at hl
      cases hl
    have ra4 := ra3.same s4
    have tab14 := tab1'.kt (KT.of s4)
    have tab24 := tab2.kt (KT.of s4)
    generalize (upd H3 l (.lst [.ref t1, .ref t2])) = H4 at s4 el4 ra4 tab14 tab24 ⊢
    refine ⟨_, _, _, _, rfl, hlr, el4, ra4, fun z H5 f5 ra5 hz => ?_⟩
    obtain ⟨ys4, hys4⟩ := ra4.lst
    have k5 := f5.kt hys4
    obtain ⟨t, n, ks, rfl, tab5, tok, n4, kl⟩ : ∃ t n ks, z = .ref t ∧ TabAt H5 t n ks ∧ TabOk n ks ∧ n ≤ 4 ∧ ks.length ≤ 5 := by
      rcases hz with rfl | rfl
      · exact ⟨t1, m1, ks1, rfl, tab14.kt k5, tok1, m41, kl1⟩
      · exact ⟨t2, m2, ks2, rfl, tab24.kt k5, tok2, m42, kl2⟩
    refine ⟨_, rfl, ?_⟩
    refine ⟨_, rfl, ra5, fun b m es H6 f6 ra6 nb tabb bok m4 el => ?_⟩
    obtain ⟨ys5, hys5⟩ := ra5.lst
    have tab6 := tab5.kt (f6.kt hys5)
    have o : Ok n m ks es := ⟨tok, bok, n4, m4, kl, el⟩
    refine ⟨_, _, _, rfl, ?_⟩
    refine ⟨_, rfl, ?_⟩
    refine ⟨_, rfl, ?_⟩
    obtain ⟨rb, asb, hb1, hb2, hb3⟩ := id tabb
    refine ⟨_, _, _, _, rfl, rfl, .of hb1, rfl, ?_⟩
    refine ⟨_, rfl, ?_⟩
    obtain ⟨rt, ast, ht1, ht2, ht3⟩ := id tab6
    refine ⟨_, _, _, _, rfl, rfl, .of ht1, rfl, ?_⟩
    have n1 := o.tab.1
    have mm1 := o.web.1
    refine ⟨_, _, _, rfl, by omega, by omega, by omega, by omega, ra6, fun c S Hc f7 ra7 nc ic lenS inS => ?_⟩
    obtain ⟨ys6, hys6⟩ := ra6.lst
    have tabt := tab6.kt (f7.kt hys6)
    have tabw := tabb.kt (f7.kt hys6)
    have so : SOk n m S := ⟨inS, lenS⟩
    clear ra7 ra6 ra5 ra4 ra3 ra2 ra1 f7 f6 f5 f3 f2 hys6 hys5 hys4 hys2 tab6 tab5 tab14 tab24 tab1 tab1' tab2 hz hb1 hb2 hb3 ht1 ht2 ht3 tabb k5 el4 s4 s1 hsc nt1 nt2 tok1 tok2 m41 m42 kl1 kl2 nb nc
    -- the walk, the layers
    refine ⟨_, rfl, ?_⟩
    refine ⟨_, rfl, ?_⟩
    refine ⟨_, rfl, ?_⟩
    refine ⟨_, _, _, _, _, _, _, _, rfl, tabt, tabw, ic, o, so, fun d lw H7 s7 hd ed vals wd => ?_⟩
    refine ⟨_, rfl, ?_⟩
    refine ⟨_, _, _, _, _, _, _, _, rfl, o, wd, ed, vals, fun H8 s8 nterm => ?_, fun po bs F H8 s8 hpo epo ibs tp => ?_⟩
    · refine ⟨_, _, rfl, ?_⟩
      refine ⟨LawM Hc a r t b c ks es S, ?_, ?_⟩
      · refine ⟨_, rfl, ?_⟩
        refine ⟨rfl, ?_⟩
        refine ⟨_, rfl, ?_⟩
        refine ifN (by simp) ?_
        exact ⟨s7.trans s8, .str "ending", _, _, _, _, _, _, _, _, _, _, _, rfl, fun _ => rfl, fun h => absurd h nterm⟩
      · intro σ' H' hM
        exact try_ok NE NE2 o so tabt tabw ic q hM
    · have term := topo_term wd tp
      refine ⟨_, _, rfl, ?_⟩
      refine ⟨LawM Hc a r t b c ks es S, ?_, ?_⟩
      · refine ⟨_, rfl, ?_⟩
        refine ⟨rfl, ?_⟩
        refine ⟨_, rfl, ?_⟩
        refine ifP (by simp) ?_
        intro lk hlk
        have e9 : (upd H8 lk (.dT [])) lk = some (.dT (dI [])) := upd_same
        have s9 : Same H8 (upd H8 lk (.dT [])) := same_new hlk
        refine ⟨_, rfl, ?_⟩
        refine ⟨_, rfl, ⟨_, .of (s9 _ _ epo)⟩, ?_⟩
        have tlen := tp.len
        have blen := ibs.length
        have ed8 := s8 _ _ ed
        have vals8 := vals.same s8
        have ic8 := IT.kt (KT.of (s7.trans s8)) ic
        have s78 := s7.trans s8
        clear ed vals s7 tabt tabw
        refine for_it (walk_list (xs := bs.map V.ref)) (fun i σ H2 => Same H8 H2 ∧ ∃ lf D o10 o11 o12 o13 o14 o15 o16 o17, H2 lk = some (.dT (dI lf)) ∧ lf.length ≤ i ∧ 0 < D ∧ D ≤ 64 ^ i ∧ FoundV ks es H2 lf (F.take i) D i ∧ σ = [some (.ref a), some (.ref r), some (.ref t), some (.ref b), some .non, some (.ref c), some (.ref d), some (.ref po), some (.str "ending"), some (.ref lk), o10, o11, o12, o13, o14, o15, o16, o17])
          ⟨s9, [], 1, none, none, none, none, none, none, none, none, e9, Nat.le_refl _, by decide, by decide, fun k hk => by simp at hk, rfl⟩ (fun i σ H2 _ pp => .of (pp.1 _ _ epo)) (fun i x0 σ H2 H3 hi pp yy => ?_) (fun σ H2 pp => ?_)
        · obtain ⟨s3, lf, D, o10, o11, o12, o13, o14, o15, o16, o17, edf, hlf, hD0, hD, fd, rfl⟩ := pp
          obtain ⟨rfl, hx⟩ := yy
          obtain ⟨qa, k, rfl, ea, ek, ia⟩ := its_get ibs hx
          have hkL := tp.sub k (List.mem_of_getElem? ek)
          obtain ⟨u, hu, hum⟩ := valV_of_mem hkL
          obtain ⟨la, as, ev, _, ela, ias⟩ := vals8 _ hum
          dsimp only at ev ias
          subst ev
          have hi256 : i < 256 := by
            rw [List.length_map] at hi
            omega
          obtain ⟨uws, huw⟩ := paired_of (F := fun z (uw : Addr × W4) => valV lf z = some (.ref uw.1) ∧ V4 H3 uw.1 uw.2 ∧ Val ks es combL z uw.2.a ∧ Val ks es combS z uw.2.b ∧ Val ks es combC z uw.2.c ∧ Val ks es combM z uw.2.m ∧ BM D i uw.2.m) (l := succ ks es k) fun z hz => by
            obtain ⟨u, v, h⟩ := fd z (tp.bef i k ek z hz)
            exact ⟨(u, v), h⟩
          have hul := huw.length
          have hal := ias.length
          have hsl := succ_len (s := k) o
          -- some
          refine ⟨_, rfl, ?_⟩
          refine ⟨_, rfl, ?_⟩
          have gD : DGet H3 d (.ref qa) (some (.ref la)) := by
            rw [← hu]
            exact dget (s3 _ _ ed8) (IT.kt (KT.of s3) ia)
          refine ⟨_, _, rfl, gD, ?_⟩
          refine ⟨_, rfl, ⟨_, .of (s3 _ _ ela)⟩, ?_⟩
          intro Ds hDs
          refine lc_it (walk_list (xs := as.map V.ref)) (PvLc H3 Ds (fun j acc _ => acc = ((uws.map (·.1)).take j).map V.ref)) (PvLc.zero (fun _ _ _ _ _ h => h) hDs rfl) (fun j H4 _ p => ?_) (fun j x H4 H5 hj p y => ?_) (fun H4 p => ?_)
          · obtain ⟨acc, eD, hl, s1, hr⟩ := p
            exact .of (s1 _ _ (s3 _ _ ela))
          · obtain ⟨acc, eD, hal2, s1, hr⟩ := p
            obtain ⟨rfl, hx⟩ := y
            obtain ⟨a1, z, rfl, ea1, ez, iz⟩ := its_get ias hx
            obtain ⟨uw, euw, h1, h2⟩ := paired_get huw ez
            refine ⟨rfl, ?_⟩
            refine ⟨_, rfl, ?_⟩
            refine ⟨_, rfl, ?_⟩
            have gF : DGet H5 lk (.ref a1) (some (.ref uw.1)) := by
              rw [← h1]
              exact dget (s1 _ _ edf) (IT.kt (KT.of (s3.trans s1)) iz)
            refine ⟨_, _, rfl, gF, ?_⟩
            refine PvLc.put (fun _ _ _ _ _ h => h) hDs eD hal2 s1 (Same.refl _) ?_ (by rw [List.length_map] at hj; omega)
            have eu1 : (uws.map (·.1))[j]? = some uw.1 := by rw [List.getElem?_map, euw]; rfl
            show acc ++ [V.ref uw.1] = ((uws.map (·.1)).take (j + 1)).map V.ref
            rw [hr, take_succ_get eu1, List.map_append]
            rfl
          obtain ⟨acc, eDs, _, s4, hr⟩ := p
          rw [List.take_of_length_le (by rw [List.length_map, List.length_map]; omega)] at hr
          subst hr
          have pv4 : Paired (V4 H4) (uws.map (·.1)) (uws.map (·.2)) := paired_map2 fun uw huw' => by
            obtain ⟨z, h1, h2, h3⟩ := Paired.right huw uw huw'
            exact h2.kt (KT.of s4)
          have edf4 := s4 _ _ edf
          have hbm : ∀ v ∈ (uws.map (·.2)).map W4.m, BM D i v := fun v hv => by
            obtain ⟨w, hw, rfl⟩ := List.mem_map.mp hv
            obtain ⟨uw, huw', rfl⟩ := List.mem_map.mp hw
            obtain ⟨z, h1, h2, h3, h4, h5, h6, h7⟩ := Paired.right huw uw huw'
            exact h7
          have vL : Val ks es combL k (combL ((uws.map (·.2)).map W4.a)) := Val.of (by rw [List.map_map]; exact paired_map (Paired.mono (fun _ _ h => h.2.2.1) huw))
          have vS : Val ks es combS k (combS ((uws.map (·.2)).map W4.b)) := Val.of (by rw [List.map_map]; exact paired_map (Paired.mono (fun _ _ h => h.2.2.2.1) huw))
          have vC : Val ks es combC k (combC ((uws.map (·.2)).map W4.c)) := Val.of (by rw [List.map_map]; exact paired_map (Paired.mono (fun _ _ h => h.2.2.2.2.1) huw))
          have vM : Val ks es combM k (combM ((uws.map (·.2)).map W4.m)) := Val.of (by rw [List.map_map]; exact paired_map (Paired.mono (fun _ _ h => h.2.2.2.2.2.1) huw))
          have nnL : ∀ v ∈ (uws.map (·.2)).map W4.a, 0 ≤ v := fun v hv => by
            obtain ⟨w, hw, rfl⟩ := List.mem_map.mp hv
            obtain ⟨uw, huw', rfl⟩ := List.mem_map.mp hw
            obtain ⟨z, h1, h2, h3, h4⟩ := Paired.right huw uw huw'
            exact h3.nnL
          have hus : (uws.map (·.1)).length = as.length := by rw [List.length_map]; omega
          have hws : (uws.map (·.2)).length = as.length := by rw [List.length_map]; omega
          have s34 := s3.trans s4
          have fd4 := fd.kt (KT.of s4)
          have ia4 := IT.kt (KT.of s34) ia
          clear huw
          generalize uws.map (·.1) = us at eDs pv4 hus ⊢
          generalize uws.map (·.2) = ws at pv4 hbm vL vS vC vM nnL hws ⊢
          dsimp only [tSeq, tAsg, gName, tIf]
          refine eq_ok (K := K) (l := Ds) ?_ eDs pv4 fun H5 s5 => ?_
          · rfl
          refine mean0_ok fun p0 H6 s6 hp0 => ?_
          have s56 := s5.trans s6
          have eDs6 := s56 _ _ eDs
          have pv6 := v4s_kt (KT.of s56) pv4
          have edf6 := s56 _ _ edf4
          have s36 := s34.trans s56
          have fd6 := fd4.kt (KT.of s56)
          have ia6 := IT.kt (KT.of s56) ia4
          clear eDs pv4 edf4 fd4 ia4 s34 fd
          have hml : (ws.map W4.m).length = as.length := by rw [List.length_map, hws]
          generalize ha0 : (if decide (ws = []) = true then (0 : Rat) else 1) = m0 at hp0
          have hm01 : m0 = 0 ∨ m0 = 1 := by
            rw [← ha0]
            split
            · exact .inl rfl
            · exact .inr rfl
          refine ⟨_, rfl, ?_⟩
          refine ⟨_, rfl, ⟨_, .of eDs6⟩, ?_⟩
          refine for_it (walk_list (xs := us.map V.ref)) (fun j σ H7 => Same H6 H7 ∧ ∃ pm o13, RT H7 pm (accM (mkRat 1 as.length) m0 ((ws.map W4.m).take j)) ∧ σ = [some (.ref a), some (.ref r), some (.ref t), some (.ref b), some .non, some (.ref c), some (.ref d), some (.ref po), some (.str "ending"), some (.ref lk), some (.ref qa), some (.ref Ds), some (.ref pm), o13, o14, o15, o16, o17])
            ⟨Same.refl _, p0, o13, hp0, rfl⟩ (fun j σ H5 _ pp => .of (pp.1 _ _ eDs6)) (fun j x1 σ H7 H8' hj pp yy => ?_) (fun σ H7 pp => ?_)
          · obtain ⟨s7, pm, o13, hpm, rfl⟩ := pp
            obtain ⟨rfl, hx1⟩ := yy
            rw [List.getElem?_map] at hx1
            obtain ⟨u1, eu1, rfl⟩ := Option.map_eq_some_iff.mp hx1
            obtain ⟨w1, ew1, m1, h1, h2⟩ := paired_get pv6 eu1
            have evj : (ws.map W4.m)[j]? = some w1.m := by rw [List.getElem?_map, ew1]; rfl
            have hvm : w1.m ∈ ws.map W4.m := List.mem_of_getElem? evj
            have hn0 : 0 < as.length := by
              rw [List.length_map] at hj
              omega
            obtain ⟨sm1, sm2⟩ := acc_small hi256 hD0 hD hn0 (by omega) hml hbm hm01 j
            have h1' := s7 _ _ h1
            have h2' : H8' m1 = some (.tup [.int w1.m.num, .int ((w1.m.den : Nat) : Int)]) := s7 _ _ h2
            refine ⟨_, rfl, ?_⟩
            refine ⟨_, rfl, ?_⟩
            refine ⟨_, _, _, _, rfl, rfl, .of h1', rfl, ?_⟩
            refine ⟨_, _, _, _, rfl, rfl, .of h2', rfl, ?_⟩
            refine ⟨_, rfl, ?_⟩
            refine ⟨_, _, _, _, rfl, rfl, .of h1', rfl, ?_⟩
            refine ⟨_, _, _, _, rfl, rfl, .of h2', rfl, ?_⟩
            refine ⟨_, rfl, ?_⟩
            refine ⟨_, _, rfl, .inl (.of (s7 _ _ eDs6)), ?_⟩
            have el : (us.map V.ref).length = as.length := by rw [List.length_map, hus]
            rw [el]
            have smv := (sm2 w1.m hvm).1
            have hlt : as.length < 2 ^ 7 := by omega
            refine ⟨_, _, rfl, rfl, wide_mul (a := 4000) smv.2 (b := 7) hlt (by decide) (by decide) (by decide), ?_⟩
            have hdl : w1.m.den * as.length < 2 ^ 9000 := by
              have q1 : w1.m.den * as.length < 2 ^ 4000 * 2 ^ 7 := Nat.mul_lt_mul'' smv.2 hlt
              rw [← Nat.pow_add] at q1
              exact Nat.lt_of_lt_of_le q1 (Nat.pow_le_pow_right (by decide) (by decide))
            refine ⟨w1.m.num, w1.m.den * as.length, rfl, Nat.mul_pos w1.m.den_pos hn0, hdl, fun q1 hq1 => ?_⟩
            have emk : mkRat w1.m.num (w1.m.den * as.length) = w1.m * mkRat 1 as.length := by
              have e1 := Rat.mkRat_mul_mkRat w1.m.num 1 w1.m.den as.length
              rw [Int.mul_one, Rat.mkRat_self] at e1
              exact e1.symm
            rw [emk]
            have smw := (sm2 w1.m hvm).2
            have eacc := accM_snoc (r := mkRat 1 as.length) (a := m0) evj
            generalize w1.m * mkRat 1 as.length = vw at smw eacc ⊢
            have t1 : Same H8' (upd H8' q1 (.tup [.int vw.num, .int ((vw.den : Nat) : Int)])) := same_new hq1
            have rq1 : RT (upd H8' q1 (.tup [.int vw.num, .int ((vw.den : Nat) : Int)])) q1 vw := upd_same
            generalize (upd H8' q1 (.tup [.int vw.num, .int ((vw.den : Nat) : Int)])) = H9 at t1 rq1 ⊢
            refine ⟨_, _, _, vw, rfl, RT.kt (KT.of t1) hpm, rq1, sm1, smw, fun q3 hq3 => ?_⟩
            dsimp only
            rw [← eacc]
            exact ⟨s7.trans (t1.trans (same_new hq3)), q3, some (.ref u1), upd_same, rfl⟩
          obtain ⟨s7, pm, o13, hpm, rfl⟩ := pp
          rw [List.take_of_length_le (by rw [List.length_map, List.length_map, hws, hus]; omega)] at hpm
          have eDs7 := s7 _ _ eDs6
          have pv7 := v4s_kt (KT.of s7) pv6
          have edf7 := s7 _ _ edf6
          have s37 := s36.trans s7
          have fd7 := fd6.kt (KT.of s7)
          have ia7 := IT.kt (KT.of s7) ia6
          clear eDs6 pv6 edf6 fd6 ia6 s36 hp0
          have eM : accM (mkRat 1 as.length) m0 (ws.map W4.m) = combM (ws.map W4.m) := by
            by_cases hw : ws = []
            · rw [decide_eq_true hw, if_pos rfl] at ha0
              rw [← ha0, hw]
              rfl
            · rw [decide_eq_false hw, if_neg Bool.false_ne_true] at ha0
              rw [← ha0, accM_law]
              unfold combM
              rw [if_neg (fun z => hw (List.map_eq_nil_iff.mp z)), hml]
          have hDD : ∃ D2, 0 < D2 ∧ D2 ≤ 64 ^ (i + 1) ∧ (∀ r, BM D i r → BM D2 (i + 1) r) ∧ BM D2 (i + 1) (combM (ws.map W4.m)) := by
            by_cases hw : ws = []
            · refine ⟨D, hD0, ?_, fun r hr => hr.up, ⟨0, ?_, Nat.zero_le _⟩⟩
              · rw [Nat.pow_succ]
                omega
              · rw [hw]
                exact mk_zero D
            · have hn0 : 0 < as.length := by
                rw [← hws]
                exact List.length_pos_iff.mpr hw
              refine ⟨D * as.length, Nat.mul_pos hD0 hn0, ?_, fun r hr => hr.scale hn0, ?_⟩
              · rw [Nat.pow_succ]
                exact Nat.mul_le_mul hD (by omega)
              · have e1 : combM (ws.map W4.m) = accM (mkRat 1 as.length) 1 (ws.map W4.m) := by
                  rw [accM_law]
                  unfold combM
                  rw [if_neg (fun z => hw (List.map_eq_nil_iff.mp z)), hml]
                rw [e1]
                exact comb_BM hD0 hn0 hml hbm
          obtain ⟨D2, hD20, hD2, up, hb2⟩ := hDD
          rw [eM] at hpm
          clear eM ha0 hm01
          have hus100 : us.length ≤ 100 := by omega
          dsimp only [tSeq, tAsg, gName]
          refine long_ok (K := K) (l := Ds) ?_ ?_ eDs7 pv7 hus100 nnL fun H9 t1 => ?_
          · show 13 < 18
            decide
          · rfl
          refine short_ok (K := K) (l := Ds) ?_ ?_ (t1 _ _ eDs7) (v4s_kt (KT.of t1) pv7) hus100 fun H10 t2 => ?_
          · show 13 < 18
            decide
          · rfl
          have t12 := t1.trans t2
          refine ⟨_, rfl, ?_⟩
          refine ⟨_, rfl, ?_⟩
          dsimp only [tCons]
          refine count_ok (K := K) (l := Ds) ?_ ?_ (t12 _ _ eDs7) (v4s_kt (KT.of t12) pv7) hus100 fun H11 t3 => ?_
          · show 13 < 18
            decide
          · rfl
          have t13 := t12.trans t3
          refine ⟨_, rfl, ?_⟩
          refine ⟨by show 4 ≤ sizeLine; decide, fun pw hpw => ?_⟩
          have t4 : Same H11 (upd H11 pw (.tup [.int (combL (ws.map W4.a)), .int (combS (ws.map W4.b)), .int (combC (ws.map W4.c)), .ref pm])) := same_new hpw
          have epw : (upd H11 pw (.tup [.int (combL (ws.map W4.a)), .int (combS (ws.map W4.b)), .int (combC (ws.map W4.c)), .ref pm])) pw = some (.tup [.int (combL (ws.map W4.a)), .int (combS (ws.map W4.b)), .int (combC (ws.map W4.c)), .ref pm]) := upd_same
          have t14 := t13.trans t4
          have e12 := t14 _ _ edf7
          have v12 : V4 (upd H11 pw (.tup [.int (combL (ws.map W4.a)), .int (combS (ws.map W4.b)), .int (combC (ws.map W4.c)), .ref pm])) pw ⟨combL (ws.map W4.a), combS (ws.map W4.b), combC (ws.map W4.c), combM (ws.map W4.m)⟩ := ⟨pm, epw, RT.kt (KT.of t14) hpm⟩
          have fd12 := fd7.kt (KT.of t14)
          have ia12 := IT.kt (KT.of t14) ia7
          have s312 := s37.trans t14
          refine ⟨_, rfl, ?_⟩
          refine ⟨_, rfl, ?_⟩
          have kt := KT.dT (o := .dT (dI (putK lf k (.ref pw)))) e12
          refine ⟨_, _, rfl, dput e12 ia12 (by omega), ?_⟩
          refine ⟨same_to s312 hlk, putK lf k (.ref pw), D2, _, _, _, _, _, _, _, _, upd_same, ?_, hD20, hD2, ?_, rfl⟩
          · have := putK_length lf k (.ref pw)
            omega
          · rw [take_succ_get ek]
            exact FoundV.put (fd12.kt kt) up (v12.kt kt) vL vS vC vM hb2
        · obtain ⟨s3, lf, D, o10, o11, o12, o13, o14, o15, o16, o17, edf, hlf, hD0, hD, fd, rfl⟩ := pp
          have hS : S ∈ F.take (bs.map V.ref).length := by
            rw [List.take_of_length_le (by rw [List.length_map]; omega)]
            exact tp.all S wd.st
          obtain ⟨u, w4, hu, hv, h1, h2, h3, h4, _⟩ := fd S hS
          refine ⟨_, rfl, ?_⟩
          refine ⟨_, rfl, ?_⟩
          have gF : DGet H2 lk (.ref c) (some (.ref u)) := by
            rw [← hu]
            exact dget edf (IT.kt (KT.of s3) ic8)
          refine ⟨_, _, rfl, gF, ?_⟩
          exact ⟨s78.trans s3, .ref u, _, _, _, _, _, _, _, _, _, _, _, rfl, fun nt => absurd term nt, fun _ => ⟨u, w4, rfl, hv, h1, h2, h3, h4⟩⟩
      · intro σ' H' hM
        exact try_ok NE NE2 o so tabt tabw ic q hM
end
end K4
set_option Elab.async false
set_option linter.all false
set_option maxRecDepth 100000
set_option maxHeartbeats 0
/-! the head: facts by names, the run of the top -/
namespace K4
open PySem PySem.Spec PyProof.Rows L2 K4R
/-! a hook with more facts than the modules' own -/
abbrev AlP : Type := He.AlD × Bool
def obsP (n : Nat) (fa : List He.Fa) (fn : List He.DefD) (ex : PySem.W.Frag → Bool) (g : Addr → Option Obj) : AlP := (He.obsD fa fn (He.frG g (He.asD g n)), ex (He.frG g (He.asD g n)))
def hookP (n : Nat) (fa : List He.Fa) (fn : List He.DefD) (ex : PySem.W.Frag → Bool) : PySem.W.Hook where
  α := AlP
  obs := fun s => obsP n fa fn ex s.heap.get?
  val := fun _ => (He.valD fn, true)
  says := fun _ h => ∃ K : PySem.W.Frag, K.In h ∧ He.SaysD fa fn K ∧ ex K = true
  of := fun _ _ e => ⟨_, He.frG_in, congrArg (fun z : AlP => z.1) e, congrArg (fun z : AlP => z.2) e⟩
  keeps := fun _ _ _ ⟨K, hK, c⟩ k => ⟨K, PySem.W.Frag.In.keeps hK k, c⟩
theorem obsP_eq {n : Nat} {fa : List He.Fa} {fn : List He.DefD} {ex : PySem.W.Frag → Bool} {g : Addr → Option Obj} {s : Shared} (h : ∀ a, g a = s.heap.get? a) : obsP n fa fn ex g = (hookP n fa fn ex).obs s := by
  have e : g = s.heap.get? := funext h
  rw [e] <;> rfl
/-- more of NotEnding -/
def exB (K : PySem.W.Frag) : Bool := He.eqO (PySem.W.findIn K (.ref (He.ga K "NotEnding")) "__getattribute__") (some (some (.builtin "BaseException.__getattribute__"))) &&
  (He.eqO (PySem.W.findIn K (.ref (He.ga K "NotEnding")) "__getattr__") (some none) && (PySem.W.hasDictIn K (He.ga K "NotEnding") &&
  (He.eqO (PySem.W.findIn K (.ref (He.ga K "NotEnding")) "__class__") (some (some (.builtin "object.__class__"))) &&
  (He.eqO (PySem.W.specialIn K (.builtin "object.__class__") "__get__") (some (some (.builtin "getset_descriptor.__get__"))) &&
  (decide (PySem.W.takesIn K (.builtin "object.__class__") = some true) && (decide (PySem.W.mroIn K (He.ga K "NotEnding") (.type "object") = some true) &&
  decide (PySem.W.kitOne K (.ref (He.ga K "NotEnding")) (.ref (He.ga K "NotEnding")) = some true)))))))
def dd_is_in : He.DefD := ⟨("is_in", none), "is_in", "is_in", defArgs s_is_in, defBody s_is_in, defScope s_is_in, [], []⟩
def dd_gcd : He.DefD := ⟨("gcd", none), "gcd", "gcd", defArgs s_gcd, defBody s_gcd, defScope s_gcd, [], []⟩
def dd_reduced : He.DefD := ⟨("reduced", none), "reduced", "reduced", defArgs s_reduced, defBody s_reduced, defScope s_reduced, [], []⟩
def dd_plus : He.DefD := ⟨("plus", none), "plus", "plus", defArgs s_plus, defBody s_plus, defScope s_plus, [], []⟩
def dd_times : He.DefD := ⟨("times", none), "times", "times", defArgs s_times, defBody s_times, defScope s_times, [], []⟩
def dd_is_rule : He.DefD := ⟨("is_rule", none), "is_rule", "is_rule", defArgs s_is_rule, defBody s_is_rule, defScope s_is_rule, [], []⟩
def dd_need_table : He.DefD := ⟨("need_table", none), "need_table", "need_table", defArgs s_need_table, defBody s_need_table, defScope s_need_table, [], []⟩
def dd_results_in : He.DefD := ⟨("results_in", none), "results_in", "results_in", defArgs s_results_in, defBody s_results_in, defScope s_results_in, [], []⟩
def dd_is_edge : He.DefD := ⟨("is_edge", none), "is_edge", "is_edge", defArgs s_is_edge, defBody s_is_edge, defScope s_is_edge, [], []⟩
def dd_need_web : He.DefD := ⟨("need_web", none), "need_web", "need_web", defArgs s_need_web, defBody s_need_web, defScope s_need_web, [], []⟩
def dd_need_kinds : He.DefD := ⟨("need_kinds", none), "need_kinds", "need_kinds", defArgs s_need_kinds, defBody s_need_kinds, defScope s_need_kinds, [], []⟩
def dd_need_start : He.DefD := ⟨("need_start", none), "need_start", "need_start", defArgs s_need_start, defBody s_need_start, defScope s_need_start, [], []⟩
def dd_moves_in : He.DefD := ⟨("moves_in", none), "moves_in", "moves_in", defArgs s_moves_in, defBody s_moves_in, defScope s_moves_in, [], []⟩
def dd_moved : He.DefD := ⟨("moved", none), "moved", "moved", defArgs s_moved, defBody s_moved, defScope s_moved, [], []⟩
def dd_come_in : He.DefD := ⟨("come_in", none), "come_in", "come_in", defArgs s_come_in, defBody s_come_in, defScope s_come_in, [], []⟩
def dd_order_in : He.DefD := ⟨("order_in", none), "order_in", "order_in", defArgs s_order_in, defBody s_order_in, defScope s_order_in, [], []⟩
def dd_walk_in : He.DefD := ⟨("walk_in", none), "walk_in", "walk_in", defArgs s_walk_in, defBody s_walk_in, defScope s_walk_in, [], []⟩
def dd_longest : He.DefD := ⟨("longest", none), "longest", "longest", defArgs s_longest, defBody s_longest, defScope s_longest, [], []⟩
def dd_shortest : He.DefD := ⟨("shortest", none), "shortest", "shortest", defArgs s_shortest, defBody s_shortest, defScope s_shortest, [], []⟩
def dd_run_count : He.DefD := ⟨("run_count", none), "run_count", "run_count", defArgs s_run_count, defBody s_run_count, defScope s_run_count, [], []⟩
def dd_mean_moves : He.DefD := ⟨("mean_moves", none), "mean_moves", "mean_moves", defArgs s_mean_moves, defBody s_mean_moves, defScope s_mean_moves, [], []⟩
def dd_law_taken : He.DefD := ⟨("_law_taken", none), "_law_taken", "_law_taken", defArgs s_law_taken, defBody s_law_taken, defScope s_law_taken, [], []⟩
def dd_law_pick : He.DefD := ⟨("_law_pick", none), "_law_pick", "_law_pick", defArgs s_law_pick, defBody s_law_pick, defScope s_law_pick, [], []⟩
def dd_law_order : He.DefD := ⟨("_law_order", none), "_law_order", "_law_order", defArgs s_law_order, defBody s_law_order, defScope s_law_order, [], []⟩
def dd_law_rule : He.DefD := ⟨("_law_rule", none), "_law_rule", "_law_rule", defArgs s_law_rule, defBody s_law_rule, defScope s_law_rule, [], []⟩
def dd_law_table : He.DefD := ⟨("_law_table", none), "_law_table", "_law_table", defArgs s_law_table, defBody s_law_table, defScope s_law_table, [], []⟩
def dd_law_falling : He.DefD := ⟨("_law_falling", none), "_law_falling", "_law_falling", defArgs s_law_falling, defBody s_law_falling, defScope s_law_falling, [], []⟩
def dd_law_web : He.DefD := ⟨("_law_web", none), "_law_web", "_law_web", defArgs s_law_web, defBody s_law_web, defScope s_law_web, [], []⟩
def dd_law_kinds : He.DefD := ⟨("_law_kinds", none), "_law_kinds", "_law_kinds", defArgs s_law_kinds, defBody s_law_kinds, defScope s_law_kinds, [], []⟩
def dd_law_results : He.DefD := ⟨("_law_results", none), "_law_results", "_law_results", defArgs s_law_results, defBody s_law_results, defScope s_law_results, [], []⟩
def dd_law_moves : He.DefD := ⟨("_law_moves", none), "_law_moves", "_law_moves", defArgs s_law_moves, defBody s_law_moves, defScope s_law_moves, [], []⟩
def dd_law_walk : He.DefD := ⟨("_law_walk", none), "_law_walk", "_law_walk", defArgs s_law_walk, defBody s_law_walk, defScope s_law_walk, [], []⟩
def dd_law_layers : He.DefD := ⟨("_law_layers", none), "_law_layers", "_law_layers", defArgs s_law_layers, defBody s_law_layers, defScope s_law_layers, [], []⟩
def dd_law_gcd : He.DefD := ⟨("_law_gcd", none), "_law_gcd", "_law_gcd", defArgs s_law_gcd, defBody s_law_gcd, defScope s_law_gcd, [], []⟩
def dd_law_ratio : He.DefD := ⟨("_law_ratio", none), "_law_ratio", "_law_ratio", defArgs s_law_ratio, defBody s_law_ratio, defScope s_law_ratio, [], []⟩
def dd_law_plus : He.DefD := ⟨("_law_plus", none), "_law_plus", "_law_plus", defArgs s_law_plus, defBody s_law_plus, defScope s_law_plus, [], []⟩
def dd_law_alike : He.DefD := ⟨("_law_alike", none), "_law_alike", "_law_alike", defArgs s_law_alike, defBody s_law_alike, defScope s_law_alike, [], []⟩
def dd_law : He.DefD := ⟨("law", none), "law", "law", defArgs s_law, defBody s_law, defScope s_law, [], []⟩
def fnL : List He.DefD := ([dd_is_in, dd_gcd, dd_reduced, dd_plus, dd_times, dd_is_rule, dd_need_table, dd_results_in, dd_is_edge, dd_need_web, dd_need_kinds, dd_need_start, dd_moves_in, dd_moved, dd_come_in, dd_order_in, dd_walk_in, dd_longest, dd_shortest, dd_run_count] : List He.DefD) ++ ([dd_mean_moves, dd_law_taken, dd_law_pick, dd_law_order, dd_law_rule, dd_law_table, dd_law_falling, dd_law_web, dd_law_kinds, dd_law_results, dd_law_moves, dd_law_walk, dd_law_layers, dd_law_gcd, dd_law_ratio, dd_law_plus, dd_law_alike, dd_law] : List He.DefD)
def faL : List He.Fa := ([.glo "is_in", .glo "gcd", .glo "reduced", .glo "plus", .glo "times", .glo "is_rule", .glo "need_table", .glo "results_in", .glo "is_edge", .glo "need_web", .glo "need_kinds", .glo "need_start", .glo "moves_in", .glo "moved", .glo "come_in", .glo "order_in", .glo "walk_in", .glo "longest", .glo "shortest", .glo "run_count"] : List He.Fa) ++ ([.glo "mean_moves", .glo "_law_taken", .glo "_law_pick", .glo "_law_order", .glo "_law_rule", .glo "_law_table", .glo "_law_falling", .glo "_law_web", .glo "_law_kinds", .glo "_law_results", .glo "_law_moves", .glo "_law_walk", .glo "_law_layers", .glo "_law_gcd", .glo "_law_ratio", .glo "_law_plus", .glo "_law_alike", .glo "law", .free "abs", .free "bool"] : List He.Fa) ++ ([.free "dict", .free "enumerate", .free "int", .free "isinstance", .free "len", .free "list", .free "max", .free "min", .free "range", .free "sorted", .free "str", .free "sum", .free "tuple", .free "zip", .int "MOST_KINDS" 5, .int "MOST_RULES" 20, .int "MOST_PLACES" 8, .int "MOST_WALKED" 2000, .glo "NotEnding", .glo "PairError"] : List He.Fa) ++ ([.exc "NotEnding", .exm "NotEnding" "PairError" true] : List He.Fa)
def looseL : List Str := (["PairError", "BadTable", "BadWeb", "BadStart", "NotEnding", "TooMany", "is_in", "gcd", "reduced", "plus", "times", "MOST_KINDS", "MOST_RULES", "is_rule", "need_table", "results_in", "MOST_PLACES", "is_edge", "need_web", "need_kinds"] : List Str) ++ (["need_start", "moves_in", "moved", "MOST_WALKED", "come_in", "order_in", "walk_in", "longest", "shortest", "run_count", "mean_moves", "_law_taken", "_law_pick", "_law_order", "_law_rule", "_law_table", "_law_falling", "_law_web", "_law_kinds", "_law_results"] : List Str) ++ (["_law_moves", "_law_walk", "_law_layers", "_law_gcd", "_law_ratio", "_law_plus", "_law_alike"] : List Str)
abbrev R : PySem.W.OpenRow := PySem.W.OpenLaw.row PySem.Challenge.rw_pairbooks_k04_whole_ways_to_rest
abbrev hk : PySem.W.Hook := hookP 4 faL fnL exB
def ob (s : PySem.W.SharedT) : AlP := obsP 4 faL fnL exB (HandSHeadRun.getT s)
theorem ob_eq (s : PySem.W.SharedT) : ob s = hk.obs s.abs := obsP_eq (HandSHeadRun.getT_eq s)
theorem run (w : World) : HandSHeadRun.RunEq R (PySem.W.view R.prog [53]) hk ob 6000 looseL w := by
  intro os
  kernel_rfl
end K4
set_option Elab.async false
set_option linter.all false
set_option maxRecDepth 100000
set_option maxHeartbeats 4000000
/-! the end -/
namespace K4
open PySem PySem.Spec PyProof.Rows L2 K4R
section
variable {P : Program} {w : World} {K : PySem.W.Frag} {mg : Str → Option Value} {base h : Heap}
theorem def_at (X : K.In h) (G : h.Ns mainGlobals mg) {d : He.DefD} {x : Str} {st : Stmt} (e : ∃ fd, FunD K d.name d.qual d.params d.body d.scope (d.dvs K) (d.kws K) (He.fAd K d.at_) fd) (hd : d = ⟨(x, none), x, x, defArgs st, defBody st, defScope st, [], []⟩) (hg : (He.Fa.glo x).ok K = true) : DefAt K mg x st := by
  subst hd
  obtain ⟨fd, F⟩ := e
  exact ⟨_, fd, F, He.glo_ok X G hg⟩
theorem txt (X : K.In h) (G : h.Ns mainGlobals mg) (c : He.SaysD faL fnL K) : Txt K mg where
  b_abs := He.free_ok X G (c.fact 38 (f := .free "abs") rfl)
  b_bool := He.free_ok X G (c.fact 39 (f := .free "bool") rfl)
  b_dict := He.free_ok X G (c.fact 40 (f := .free "dict") rfl)
  b_enumerate := He.free_ok X G (c.fact 41 (f := .free "enumerate") rfl)
  b_int := He.free_ok X G (c.fact 42 (f := .free "int") rfl)
  b_isinstance := He.free_ok X G (c.fact 43 (f := .free "isinstance") rfl)
  b_len := He.free_ok X G (c.fact 44 (f := .free "len") rfl)
  b_list := He.free_ok X G (c.fact 45 (f := .free "list") rfl)
  b_max := He.free_ok X G (c.fact 46 (f := .free "max") rfl)
  b_min := He.free_ok X G (c.fact 47 (f := .free "min") rfl)
  b_range := He.free_ok X G (c.fact 48 (f := .free "range") rfl)
  b_sorted := He.free_ok X G (c.fact 49 (f := .free "sorted") rfl)
  b_str := He.free_ok X G (c.fact 50 (f := .free "str") rfl)
  b_sum := He.free_ok X G (c.fact 51 (f := .free "sum") rfl)
  b_tuple := He.free_ok X G (c.fact 52 (f := .free "tuple") rfl)
  b_zip := He.free_ok X G (c.fact 53 (f := .free "zip") rfl)
  c_MOST_KINDS := He.int_ok X G (c.fact 54 (f := .int "MOST_KINDS" 5) rfl)
  c_MOST_RULES := He.int_ok X G (c.fact 55 (f := .int "MOST_RULES" 20) rfl)
  c_MOST_PLACES := He.int_ok X G (c.fact 56 (f := .int "MOST_PLACES" 8) rfl)
  c_MOST_WALKED := He.int_ok X G (c.fact 57 (f := .int "MOST_WALKED" 2000) rfl)
  d_is_in := def_at X G (c.def_ 0 (d := dd_is_in) rfl) rfl (c.fact 0 (f := .glo "is_in") rfl)
  d_gcd := def_at X G (c.def_ 1 (d := dd_gcd) rfl) rfl (c.fact 1 (f := .glo "gcd") rfl)
  d_reduced := def_at X G (c.def_ 2 (d := dd_reduced) rfl) rfl (c.fact 2 (f := .glo "reduced") rfl)
  d_plus := def_at X G (c.def_ 3 (d := dd_plus) rfl) rfl (c.fact 3 (f := .glo "plus") rfl)
  d_times := def_at X G (c.def_ 4 (d := dd_times) rfl) rfl (c.fact 4 (f := .glo "times") rfl)
  d_is_rule := def_at X G (c.def_ 5 (d := dd_is_rule) rfl) rfl (c.fact 5 (f := .glo "is_rule") rfl)
  d_need_table := def_at X G (c.def_ 6 (d := dd_need_table) rfl) rfl (c.fact 6 (f := .glo "need_table") rfl)
  d_results_in := def_at X G (c.def_ 7 (d := dd_results_in) rfl) rfl (c.fact 7 (f := .glo "results_in") rfl)
  d_is_edge := def_at X G (c.def_ 8 (d := dd_is_edge) rfl) rfl (c.fact 8 (f := .glo "is_edge") rfl)
  d_need_web := def_at X G (c.def_ 9 (d := dd_need_web) rfl) rfl (c.fact 9 (f := .glo "need_web") rfl)
  d_need_kinds := def_at X G (c.def_ 10 (d := dd_need_kinds) rfl) rfl (c.fact 10 (f := .glo "need_kinds") rfl)
  d_need_start := def_at X G (c.def_ 11 (d := dd_need_start) rfl) rfl (c.fact 11 (f := .glo "need_start") rfl)
  d_moves_in := def_at X G (c.def_ 12 (d := dd_moves_in) rfl) rfl (c.fact 12 (f := .glo "moves_in") rfl)
  d_moved := def_at X G (c.def_ 13 (d := dd_moved) rfl) rfl (c.fact 13 (f := .glo "moved") rfl)
  d_come_in := def_at X G (c.def_ 14 (d := dd_come_in) rfl) rfl (c.fact 14 (f := .glo "come_in") rfl)
  d_order_in := def_at X G (c.def_ 15 (d := dd_order_in) rfl) rfl (c.fact 15 (f := .glo "order_in") rfl)
  d_walk_in := def_at X G (c.def_ 16 (d := dd_walk_in) rfl) rfl (c.fact 16 (f := .glo "walk_in") rfl)
  d_longest := def_at X G (c.def_ 17 (d := dd_longest) rfl) rfl (c.fact 17 (f := .glo "longest") rfl)
  d_shortest := def_at X G (c.def_ 18 (d := dd_shortest) rfl) rfl (c.fact 18 (f := .glo "shortest") rfl)
  d_run_count := def_at X G (c.def_ 19 (d := dd_run_count) rfl) rfl (c.fact 19 (f := .glo "run_count") rfl)
  d_mean_moves := def_at X G (c.def_ 20 (d := dd_mean_moves) rfl) rfl (c.fact 20 (f := .glo "mean_moves") rfl)
  d_law_taken := def_at X G (c.def_ 21 (d := dd_law_taken) rfl) rfl (c.fact 21 (f := .glo "_law_taken") rfl)
  d_law_pick := def_at X G (c.def_ 22 (d := dd_law_pick) rfl) rfl (c.fact 22 (f := .glo "_law_pick") rfl)
  d_law_order := def_at X G (c.def_ 23 (d := dd_law_order) rfl) rfl (c.fact 23 (f := .glo "_law_order") rfl)
  d_law_rule := def_at X G (c.def_ 24 (d := dd_law_rule) rfl) rfl (c.fact 24 (f := .glo "_law_rule") rfl)
  d_law_table := def_at X G (c.def_ 25 (d := dd_law_table) rfl) rfl (c.fact 25 (f := .glo "_law_table") rfl)
  d_law_falling := def_at X G (c.def_ 26 (d := dd_law_falling) rfl) rfl (c.fact 26 (f := .glo "_law_falling") rfl)
  d_law_web := def_at X G (c.def_ 27 (d := dd_law_web) rfl) rfl (c.fact 27 (f := .glo "_law_web") rfl)
  d_law_kinds := def_at X G (c.def_ 28 (d := dd_law_kinds) rfl) rfl (c.fact 28 (f := .glo "_law_kinds") rfl)
  d_law_results := def_at X G (c.def_ 29 (d := dd_law_results) rfl) rfl (c.fact 29 (f := .glo "_law_results") rfl)
  d_law_moves := def_at X G (c.def_ 30 (d := dd_law_moves) rfl) rfl (c.fact 30 (f := .glo "_law_moves") rfl)
  d_law_walk := def_at X G (c.def_ 31 (d := dd_law_walk) rfl) rfl (c.fact 31 (f := .glo "_law_walk") rfl)
  d_law_layers := def_at X G (c.def_ 32 (d := dd_law_layers) rfl) rfl (c.fact 32 (f := .glo "_law_layers") rfl)
  d_law_gcd := def_at X G (c.def_ 33 (d := dd_law_gcd) rfl) rfl (c.fact 33 (f := .glo "_law_gcd") rfl)
  d_law_ratio := def_at X G (c.def_ 34 (d := dd_law_ratio) rfl) rfl (c.fact 34 (f := .glo "_law_ratio") rfl)
  d_law_plus := def_at X G (c.def_ 35 (d := dd_law_plus) rfl) rfl (c.fact 35 (f := .glo "_law_plus") rfl)
  d_law_alike := def_at X G (c.def_ 36 (d := dd_law_alike) rfl) rfl (c.fact 36 (f := .glo "_law_alike") rfl)
  d_law := def_at X G (c.def_ 37 (d := dd_law) rfl) rfl (c.fact 37 (f := .glo "law") rfl)
theorem notE (X : K.In h) (G : h.Ns mainGlobals mg) (c : He.SaysD faL fnL K) : NotE K mg (He.ga K "NotEnding") := by
  obtain ⟨e1, e2, e3, e4⟩ := He.exc_ok (c.fact 60 (f := .exc "NotEnding") rfl)
  exact ⟨He.glo_ok X G (c.fact 58 (f := .glo "NotEnding") rfl), e1, e2, e3, e4⟩
theorem notE2 (X : K.In h) (G : h.Ns mainGlobals mg) (c : He.SaysD faL fnL K) (e : exB K = true) : NotE2 K mg (He.ga K "NotEnding") (He.ga K "PairError") := by
  obtain ⟨_, _, e3, _⟩ := He.exc_ok (c.fact 60 (f := .exc "NotEnding") rfl)
  obtain ⟨x1, e⟩ := He.ba e
  obtain ⟨x2, e⟩ := He.ba e
  obtain ⟨x3, e⟩ := He.ba e
  obtain ⟨x4, e⟩ := He.ba e
  obtain ⟨x5, e⟩ := He.ba e
  obtain ⟨x6, e⟩ := He.ba e
  obtain ⟨x7, x8⟩ := He.ba e
  exact ⟨He.glo_ok X G (c.fact 59 (f := .glo "PairError") rfl), He.exm_ok (c.fact 61 (f := .exm "NotEnding" "PairError" true) rfl), ⟨He.eqO_ok x1, He.eqO_ok x2, e3, x3, He.eqO_ok x4, He.eqO_ok x5, of_decide_eq_true x6, of_decide_eq_true x7⟩, of_decide_eq_true x8⟩
/-- all defs keep their promises -/
theorem law_at {C B : Addr} (T : Txt K mg) (NE : NotE K mg C) (NE2 : NotE2 K mg C B) : FnAt P w K mg base CX0 7 "law" ["_law_script"] (sp_law K) := by
  have g_is_in : FnAt P w K mg base CX0 1 _ _ _ := ok_is_in T
  have g_gcd : FnAt P w K mg base CX0 1 _ _ _ := ok_gcd T
  have g_red := ok_reduced T g_gcd
  have g_plus := ok_plus T g_red
  have g_times := ok_times T g_red
  have g_rule := ok_is_rule T g_is_in
  have g_edge := ok_is_edge T g_is_in
  have g_nt := ok_need_table T g_is_in g_rule
  have g_nw := ok_need_web T g_is_in g_edge
  have g_nk := ok_need_kinds T g_is_in
  have g_ns := ok_need_start T g_nt g_nw g_nk
  have g_res : FnAt P w K mg base CX0 1 _ _ _ := ok_results_in T
  have g_mi := ok_moves_in T g_res
  have g_md : FnAt P w K mg base CX0 1 _ _ _ := ok_moved T
  have g_ci := ok_come_in T g_mi g_md
  have g_oi : FnAt P w K mg base CX0 1 _ _ _ := ok_order_in T
  have g_wi := ok_walk_in T NE g_ns g_ci g_oi
  have l_gcd : FnAt P w K mg base CX0 1 _ _ _ := ok_law_gcd T
  have l_ratio := ok_law_ratio T l_gcd
  have l_plus := ok_law_plus T l_ratio
  have l_taken : FnAt P w K mg base CX0 1 _ _ _ := ok_law_taken T
  have l_order := ok_law_order T l_taken
  have l_rule : FnAt P w K mg base CX0 1 _ _ _ := ok_law_rule T
  have l_res : FnAt P w K mg base CX0 1 _ _ _ := ok_law_results T
  have l_moves := ok_law_moves T l_res
  have a0 : FnAt P w K mg base CX0 1 _ _ _ := ok_alike0 T
  exact ok_law T NE NE2 (ok_law_pick T l_taken) (ok_law_table T l_taken l_order l_rule) (ok_law_falling T l_taken l_order l_rule) (ok_law_web T l_taken) (ok_law_kinds T l_taken) (ok_law_walk T l_moves) (ok_law_layers T) l_ratio l_plus (ok_alikeS T (ok_alikeS T a0))
    (ok_longest T g_wi) (ok_shortest T g_wi) (ok_run_count T g_wi) (ok_mean_moves T g_wi g_plus g_times g_red)
theorem facts (X : K.In h) (G : h.Ns mainGlobals mg) {f : Addr} (hfa : mg ("law" : Str) = some (.ref f)) (c : He.SaysD faL fnL K) (e : exB K = true) :
    ∃ fd : FuncData, (∀ (s : Shared) (v : Value), BindsTo s fd ⟨[v], []⟩ [("_law_script", v)]) ∧ ∀ base : Heap, K.In base → base.Ns mainGlobals mg → FnOk P w K mg base CX0 7 f fd ["_law_script"] (sp_law K) := by
  obtain ⟨fd, F⟩ := c.def_ 37 (d := dd_law) rfl
  have e2 := hfa.symm.trans (He.glo_ok X G (c.fact 37 (f := .glo "law") rfl))
  cases e2
  have b := FunD.bindsA (ps := ["_law_script"]) F fun _ _ _ _ _ _ us hl => match us, hl with | [_], _ => rfl
  refine ⟨fd, fun s v => b s [v] rfl, fun base _ _ => ?_⟩
  obtain ⟨f2, fd2, F2, m2, _, _, oc, od, osl, lk⟩ := law_at (P := P) (w := w) (base := base) (txt X G c) (notE X G c) (notE2 X G c e)
  have e3 := hfa.symm.trans m2
  cases e3
  obtain ⟨oc2, od2, dV, kV, doc, pm, an, cdv, ct, osl2, e4, lk2, _⟩ := F.ex
  have e5 := lk.symm.trans lk2
  cases e5
  exact F2
end
end K4
open PySem PySem.W PySem.Calls PyProof.Rows
theorem PySem.Challenge.cw_pairbooks_k04_whole_ways_to_rest_holds : PySem.Challenge.rw_pairbooks_k04_whole_ways_to_rest.Holds := by
  w_on; o_law
  refine HandSHeadRun.head_any (r := OpenLaw.row PySem.Challenge.rw_pairbooks_k04_whole_ways_to_rest) (q := view (OpenLaw.row PySem.Challenge.rw_pairbooks_k04_whole_ways_to_rest).prog [53]) (H := K4.hk) (ob := K4.ob) (M := 6000) (loose := K4.looseL) (d := HandSHeadRun.topDef (OpenLaw.row PySem.Challenge.rw_pairbooks_k04_whole_ways_to_rest).prog 53) (kwd := []) K4.ob_eq
    (by kernel_rfl) (fun s => by kernel_rfl) K4.run (by kernel_rfl) (by kernel_rfl) (by kernel_rfl) (by rfl) (by first | assumption | decide +kernel) (by decide +kernel) ⟨rfl, rfl, rfl, rfl, rfl, by decide +kernel⟩ ?hw ?hc
  case hw => w_witness2
  case hc =>
    refine L2.walk_ofE (l := PySem.Challenge.rw_pairbooks_k04_whole_ways_to_rest) (n := 63) (k := 7) (x := "_law_script") (CX := L2.CX0) rfl (by decide) (by kernel_rfl) ⟨rfl, by decide, by decide⟩ ?F (fun _ _ _ _ z => z)
    intro w mg fa h Y G hmg0
    obtain ⟨K, KX, c, e⟩ := Y
    have hmg : mg ("law" : PySem.Str) = some (.ref fa) := by
      have e : (HandSHeadRun.topDef (OpenLaw.row PySem.Challenge.rw_pairbooks_k04_whole_ways_to_rest).prog 53).name = ("law" : PySem.Str) := by kernel_rfl
      rw [← e]
      exact hmg0
    obtain ⟨fd, hb, hF⟩ := K4.facts (P := (PySem.Challenge.rw_pairbooks_k04_whole_ways_to_rest).prog) (w := w) KX G hmg c e
    exact ⟨K, fd, K4.sp_law K, KX, hb, fun H a ns hl hO hS => ⟨a, ns, rfl, K4.ScrL.of hO hS, fun _ => rfl⟩, hF⟩
