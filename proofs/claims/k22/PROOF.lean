import PyProof.Rows.All
import Wide.All
import OpenK.AllK
import Wide.FinOn
import HandS.More
import HandS.SortInts
import HandS.SortKw
import HandS.Style
import KE.DataMinMax
import HandS.ForMost
import HandS.SetKeys
import KE.KDictKeyed
import PyProof.DictMoreH
import PyProof.Rows.TupDisplay
import PyProof.DictTruth
import HandS.TupLen
import HandS.TupMul
import HandS.IsInst
import HandS.Deep
import HandS.TupAny
import HandS.TupLe
import HandS.Conv
import HandS.Zip
import HandS.WordsDict
import HandS.Rev
import HandS.DictComp
import HandS.WordsExc
import HandS.ExcIs
import HandS.TryOnly
import HandS.Star
import PyProof.StrOps2
import KE.GoesEnum
import HandS.EndBits
import PySem.Challenge.RW_automatics_k22_least_sequences
set_option Elab.async false
set_option linter.all false
set_option maxRecDepth 100000
/-! FLS: sorted of a dict's whole numbers, any number of them. -/
namespace FL
open PySem PySem.Spec PyProof.Rows L2
variable {X : Cx}
theorem call_sortedDB (hcalm : X.calm = true) : CallR X (.builtin "sorted") (fun xs H Q => ∃ (a : Addr) (kvs : List (Key × V)) (ks : List Int), xs = [.ref a] ∧ Rd H a (.dK kvs) ∧ kvs.map (·.1) = ks.map Sum.inl ∧ ks.length ≤ sizeLine ∧
    ∀ (ys : List Int) (p : Addr), ys.Perm ks → ys.Pairwise (· ≤ ·) → H p = none → Q (.ref p) (upd H p (.lst (ys.map V.int)))) := by
  intro pins s σ H xs us Q I r q
  obtain ⟨a, kvs, ks, ex, hd, hks, h64, q⟩ := q
  subst ex
  obtain ⟨u, eu, rx⟩ := vals1 r
  subst eu
  cases rx
  obtain ⟨z, lo, vs, rel, dd⟩ := dk_rd I.hok hd
  obtain ⟨ep, hat⟩ := dd.dictAt
  have hkeys : vs.map (·.1) = ks.map Sum.inl := rel.keys.symm.trans hks
  have hl : vs.length = ks.length := by
    have e := congrArg List.length hkeys
    rw [List.length_map, List.length_map] at e
    exact e
  have h16 : vs.length ≤ sizeLine := by rw [hl]; exact h64
  refine Calls.call_function_entry PyProof.Rows.kind_sorted PyProof.Rows.plain_sorted PyProof.Rows.entry_sorted (PyProof.Rows.args_sorted1 _) ?_
  unfold Builtin.«sorted»
  refine wpAny_bind (m := checkCount "sorted" 1 1 _) (wpAny_pure ?_)
  refine wpAny_bind (PySem.W.kdu_collect (A := X.A.in1) (PySem.W.kdl_dict (knd := mixKind X.prog X.w) (kvs := vs) (ep := ep) lo) (I.ok.hd hcalm) hat h16 fun h' tk acc hk hacc => ?_)
  have hal : acc.toList.length = ks.length := by rw [Array.length_toList, hacc.1, hl]
  have hS : IntsAre acc.toList ks := ints_each hal fun j v e => by
    obtain ⟨k, x, e1, e2⟩ := hacc.2 j v (by rw [← Array.getElem?_toList]; exact e)
    have e3 : (vs.map (·.1))[j]? = some k := by rw [List.getElem?_map, e1]; rfl
    rw [hkeys, List.getElem?_map] at e3
    cases e4 : ks[j]? with
    | none => rw [e4] at e3; cases e3
    | some y =>
      rw [e4] at e3
      have e5 : Sum.inl y = k := Option.some.inj e3
      subst e5
      rcases keyIs_shape (show keyIs (Sum.inl y) v = true from e2) with ⟨i, t, ek, ev⟩ | ⟨z, t, ek, ev⟩
      · cases ek
        exact ⟨y, t, rfl, ev⟩
      · cases ek
  have I1 : Inv X pins σ H { s with heap := h', toks := tk } := I.kept hk
  have hz : acc.toList.length ≤ sizeLine := by rw [hal]; exact h64
  refine wpAny_bind (wpAny_newList ?_ hz)
  have hoL : (h'.push (seqObj "list" acc.toList.toArray 0)).get? h'.objs.size = some (seqObj "list" acc.toList.toArray 0) := Heap.get?_push_size _ rfl
  show wpAny _ _ _ _ _ { s with heap := h'.push (seqObj "list" acc.toList.toArray 0), toks := tk }
  refine wpAny_bind (wpAny_holding (wpAny_call_entry PyProof.Rows.slot_list_sort ⟨_, hoL, rfl⟩ PyProof.Rows.entry_list_sort
    (SrtO.list_sort_ord (s := { s with heap := h'.push (seqObj "list" acc.toList.toArray 0), toks := tk }) SrtO.swo_int hoL hz (fun h2 => SrtO.ints_sortable hS h2) fun out g1 g2 => ⟨_, rfl, ?_⟩) (PyProof.Rows.args_list_sort _)))
  obtain ⟨k1, k2, k3⟩ := SrtO.ints_out hS g1 g2
  obtain ⟨e', he'⟩ := PyProof.Rows.sortedHeap_at (vs := acc.toList) (out := out.toArray) hoL
  have hlen : ((out.map SrtO.iv).map V.int).length ≤ sizeLine := by
    rw [List.length_map, k2.length_eq]
    exact h64
  refine wpAny_pure ⟨_, rfl, .ref h'.objs.size, upd H h'.objs.size (.lst ((out.map SrtO.iv).map V.int)), I1.laid (t' := tk) (fun b u e => ?_) (Nat.le_refl _)
    (show ObjOk X.prog X.w _ _ _ (.lst ((out.map SrtO.iv).map V.int)) from ⟨hlen, out, e', vals_of_ints k1, he'⟩), rfl, q _ _ k2 k3 (I1.hok.fresh (Nat.le_refl _))⟩
  have hb : b < h'.objs.size := Heap.lt_size e
  rw [PyProof.Rows.sortedHeap_old (Nat.ne_of_lt hb) (by rw [size_push']; exact Nat.lt_succ_of_lt hb)]
  exact Heap.get?_push_of_some _ e
end FL

/-! FLM: max(xs, default=d), whole numbers. -/
namespace FL
open PySem PySem.Spec PyProof.Rows L2 PyProof PySem.W
variable {X : Cx}
def maxN (d : Int) : List Int → Int
  | [] => d
  | n :: ns => ns.foldl max n
theorem alike_ints (ns : List Int) : AlikeAll (ns.map PyData.int) := by
  refine ⟨fun x hx y hy => ?_, fun x hx => ?_⟩
  · obtain ⟨i, _, rfl⟩ := List.mem_map.mp hx
    obtain ⟨j, _, rfl⟩ := List.mem_map.mp hy
    rfl
  · obtain ⟨i, _, rfl⟩ := List.mem_map.mp hx
    exact fun h => by cases h
theorem depth_ints (ns : List Int) : PyData.depthAll (ns.map PyData.int) = 0 := by
  induction ns with
  | nil => rfl
  | cons n r ih => simp [PyData.depthAll, PyData.depth, ih]
theorem call_maxDef (hcalm : X.calm = true) (hu : X.A.units + 65 < cLine) : CallRK X (.builtin "max") [Str.ofString "default"] (fun vs zs H Q => ∃ (a : Addr) (ns : List Int) (d : Int), vs = [.ref a] ∧ zs = [.int d] ∧ SqL X.K H a (ns.map V.int) ∧ Q (.int (maxN d ns)) H) := by
  intro pins s σ H vs zs us ws Q I r rz h
  obtain ⟨a, ns, d, rfl, rfl, hs, q⟩ := h
  obtain ⟨w1, rfl, e1⟩ := vals1 rz
  obtain ⟨its, rv, hl, hz⟩ := I.list hs
  rw [Vals.ref1 r]
  have hi := rv.ints
  refine max_list_default (I.ok.hd hcalm) hl.isList (hi.reads _) (alike_ints ns) (by rw [depth_ints]; omega) (fun e h' tk hk => ?_) (fun y ys i v h' tk bs e hv hr hk => ?_)
  · have : ns = [] := List.map_eq_nil_iff.mp e
    subst this
    exact ⟨.int d, H, I.kept hk, e1, q⟩
  · cases ns with
    | nil => cases e
    | cons n ns =>
      rw [List.map_cons] at e
      injection e with e1 e2
      subst e1; subst e2
      rw [maxD_ints] at hr
      obtain ⟨t, rfl, _⟩ := reads_int_inv hr
      exact ⟨.int (ns.foldl max n), H, I.kept hk, ⟨t, rfl⟩, q⟩
end FL

/-! FL0: dicts whose keys are tuples, nested ones too, over the hand layer: told by NObj; what is needed of the heap stands with the caller. -/
namespace FL
open PySem PySem.Spec PyProof.Rows L2

mutual
/-- keys without texts: their hash hangs on no world -/
def noTx : NestedKey → Bool
  | .none => true
  | .num _ => true
  | .text _ => false
  | .tup ks => noTxs ks
def noTxs : List NestedKey → Bool
  | [] => true
  | k :: ks => noTx k && noTxs ks
end
mutual
theorem hash_one (w w' : World) : ∀ k : NestedKey, noTx k = true → k.hash w = k.hash w'
  | .none, _ => rfl
  | .num _, _ => rfl
  | .text _, h => nomatch h
  | .tup ks, h => by
    unfold noTx at h
    unfold NestedKey.hash
    rw [hashes_one w w' ks h]
theorem hashes_one (w w' : World) : ∀ ks : List NestedKey, noTxs ks = true → NestedKey.hashes w ks = NestedKey.hashes w' ks
  | [], _ => rfl
  | k :: ks, h => by
    unfold noTxs at h
    rw [Bool.and_eq_true] at h
    unfold NestedKey.hashes
    rw [hash_one w w' k h.1, hashes_one w w' ks h.2]
end
mutual
/-- v is the key k among H -/
def NIs (H : Hp) : NestedKey → V → Prop
  | .none, v => v = .non
  | .num i, v => v = .int i ∨ ∃ b, v = .bl b ∧ i = (if b = true then 1 else 0)
  | .text _, _ => False
  | .tup ks, v => ∃ a vs, v = .ref a ∧ H a = some (.tup vs) ∧ NAll H ks vs
def NAll (H : Hp) : List NestedKey → List V → Prop
  | [], vs => vs = []
  | k :: ks, vs => ∃ v r, vs = v :: r ∧ NIs H k v ∧ NAll H ks r
end
mutual
theorem NIs.noTx {H : Hp} : ∀ (k : NestedKey) (v : V), NIs H k v → FL.noTx k = true
  | .none, _, _ => rfl
  | .num _, _, _ => rfl
  | .text _, v, h => by unfold NIs at h; exact h.elim
  | .tup ks, v, h => by
    unfold NIs at h
    obtain ⟨a, vs, _, _, h⟩ := h
    unfold FL.noTx
    exact NAll.noTx ks vs h
theorem NAll.noTx {H : Hp} : ∀ (ks : List NestedKey) (vs : List V), NAll H ks vs → noTxs ks = true
  | [], _, _ => rfl
  | k :: ks, vs, h => by
    unfold NAll at h
    obtain ⟨v, r, _, h1, h2⟩ := h
    unfold noTxs
    rw [NIs.noTx k v h1, NAll.noTx ks r h2]
    rfl
end
mutual
theorem NIs.mono {H H' : Hp} (s : Same H H') : ∀ (k : NestedKey) (v : V), NIs H k v → NIs H' k v
  | .none, _, h => by unfold NIs at h ⊢; exact h
  | .num _, _, h => by unfold NIs at h ⊢; exact h
  | .text _, v, h => by unfold NIs at h; exact h.elim
  | .tup ks, v, h => by
    unfold NIs at h ⊢
    obtain ⟨a, vs, e, e2, h⟩ := h
    exact ⟨a, vs, e, s _ _ e2, NAll.mono s ks vs h⟩
theorem NAll.mono {H H' : Hp} (s : Same H H') : ∀ (ks : List NestedKey) (vs : List V), NAll H ks vs → NAll H' ks vs
  | [], _, h => by unfold NAll at h ⊢; exact h
  | k :: ks, vs, h => by
    unfold NAll at h ⊢
    obtain ⟨v, r, e, h1, h2⟩ := h
    exact ⟨v, r, e, NIs.mono s k v h1, NAll.mono s ks r h2⟩
end
section
variable {X : Cx} {pins : List (Addr × Obj)} {σ : L2.St} {H : Hp} {s : Shared}
mutual
theorem nIs_at (I : Inv X pins σ H s) : ∀ (k : NestedKey) (v : V) (u : Value), NIs H k v → RelV v u → NestedIs s.heap k u
  | .none, v, u, h, r => by
    unfold NIs at h
    subst h
    cases r
    exact .none
  | .num i, v, u, h, r => by
    unfold NIs at h
    rcases h with rfl | ⟨b, rfl, e⟩
    · obtain ⟨t, rfl⟩ := r
      exact .int i t
    · cases r
      exact .bool e
  | .text _, v, u, h, r => by unfold NIs at h; exact h.elim
  | .tup ks, v, u, h, r => by
    unfold NIs at h
    obtain ⟨a, vs, rfl, e2, h⟩ := h
    cases r
    obtain ⟨its, rv, ⟨o, ho, hc, n, hd⟩, _⟩ := I.tuple (SqT.of e2)
    exact .tup ho hc hd (by simpa using nAll_at I ks vs its h rv)
theorem nAll_at (I : Inv X pins σ H s) : ∀ (ks : List NestedKey) (vs : List V) (us : List Value), NAll H ks vs → Vals vs us → NestedAll s.heap ks us
  | [], vs, us, h, r => by
    unfold NAll at h
    subst h
    cases r
    exact .nil
  | k :: ks, vs, us, h, r => by
    unfold NAll at h
    obtain ⟨v, r', rfl, h1, h2⟩ := h
    cases r with
    | cons q1 q2 => exact .cons (nIs_at I k v _ h1 q1) (nAll_at I ks r' _ h2 q2)
end
end

/-! ### the dict -/
abbrev NE := NestedKey × Addr × V
def NRel (p : NE) (q : NestedKey × Addr × Value) : Prop := p.1 = q.1 ∧ p.2.1 = q.2.1 ∧ RelV p.2.2 q.2.2
def nEnt (w : World) (x : NestedKey × Addr × Value) : DictEntry := ⟨x.1.hash w, .ref x.2.1, x.2.2⟩
def NBody (a : Addr) (es : List NE) (h : Heap) : Prop := ∃ o arr ep vs, h.get? a = some o ∧ o.ExactDict ∧ o.data = .dict arr ep ∧ Paired NRel es vs ∧ (∀ w, arr.toList = vs.map (nEnt w)) ∧ (es.map (·.1)).Nodup ∧ es.length ≤ sizeLine ∧ (a == sysModules) = false
def NObj (a : Addr) (es : List NE) : HO := .ext (NBody a es)
def KeysN (H : Hp) (es : List NE) : Prop := ∀ p ∈ es, NIs H p.1 (.ref p.2.1) ∧ p.1.depth ≤ 8
def valN (es : List NE) (k : NestedKey) : Option V := (es.find? fun p => decide (p.1 = k)).map (·.2.2)
def putN (es : List NE) (k : NestedKey) (b : Addr) (v : V) : List NE := if (valN es k).isSome = true then es.map fun p => if p.1 = k then (p.1, p.2.1, v) else p else es ++ [(k, b, v)]
theorem KeysN.mono {H H' : Hp} {es : List NE} (s : Same H H') (h : KeysN H es) : KeysN H' es := fun p hp => ⟨NIs.mono s _ _ (h p hp).1, (h p hp).2⟩
theorem nobj_inj {a b : Addr} {es es' : List NE} (e : NObj a es = NObj b es') : NBody a es = NBody b es' := by
  unfold NObj at e
  injection e
theorem nobj_ok {P : Program} {w : World} {H : Hp} {h : Heap} {a : Addr} {es : List NE} (b : NBody a es h) : ObjOk P w H h a (NObj a es) := by
  refine ⟨b, ?_, fun h1 h2 p k => ?_⟩
  · obtain ⟨o, _, _, _, ho, _⟩ := b
    exact ⟨o, ho⟩
  · obtain ⟨o, arr, ep, vs, ho, r⟩ := p
    exact ⟨o, arr, ep, vs, k o ho, r⟩
theorem nrel_keys : ∀ {es : List NE} {vs : List (NestedKey × Addr × Value)}, Paired NRel es vs → es.map (·.1) = vs.map (·.1)
  | [], [], _ => rfl
  | p :: es, q :: vs, h => by
    cases h with
    | cons h t => rw [List.map_cons, List.map_cons, h.1, nrel_keys t]
theorem nrel_val : ∀ {es : List NE} {vs : List (NestedKey × Addr × Value)}, Paired NRel es vs → ∀ k, RelO (valN es k) ((atKey vs k).map (·.2))
  | [], [], _, k => trivial
  | p :: es, q :: vs, h, k => by
    cases h with
    | cons h t =>
      have ih := nrel_val t k
      unfold valN atKey at ih ⊢
      by_cases e : p.1 = k
      · have e' : q.1 = k := by rw [← h.1]; exact e
        simp only [List.find?_cons, e, e', decide_true, Option.map_some]
        exact h.2.2
      · have e' : ¬ q.1 = k := by rw [← h.1]; exact e
        simp only [List.find?_cons, e, e', decide_false]
        exact ih
theorem nrel_repl (k : NestedKey) {v : V} {u : Value} (r : RelV v u) : ∀ {es : List NE} {vs : List (NestedKey × Addr × Value)}, Paired NRel es vs → Paired NRel (es.map fun p => if p.1 = k then (p.1, p.2.1, v) else p) (vs.map (putAt k u))
  | [], [], _ => .nil
  | p :: es, q :: vs, h => by
    cases h with
    | cons h t =>
      rw [List.map_cons, List.map_cons]
      refine .cons ?_ (nrel_repl k r t)
      unfold putAt
      by_cases e : p.1 = k
      · have e' : q.1 = k := by rw [← h.1]; exact e
        rw [if_pos e, if_pos e']
        exact ⟨h.1, h.2.1, r⟩
      · have e' : ¬ q.1 = k := by rw [← h.1]; exact e
        rw [if_neg e, if_neg e']
        exact h
theorem paired_snoc {α β : Type} {R : α → β → Prop} {x : α} {y : β} (r : R x y) : ∀ {l : List α} {m : List β}, Paired R l m → Paired R (l ++ [x]) (m ++ [y])
  | [], [], _ => .cons r .nil
  | _ :: _, _ :: _, h => by
    cases h with
    | cons h t => exact .cons h (paired_snoc r t)
theorem nrel_put {k : NestedKey} {b : Addr} {v : V} {u : Value} (r : RelV v u) {es : List NE} {vs : List (NestedKey × Addr × Value)} (h : Paired NRel es vs) : Paired NRel (putN es k b v) (storedH vs k b u) := by
  have q := nrel_val h k
  unfold putN storedH
  cases e : valN es k with
  | none =>
    rw [e] at q
    cases e2 : atKey vs k with
    | none => exact paired_snoc (R := NRel) (x := (k, b, v)) (y := (k, b, u)) ⟨rfl, rfl, r⟩ h
    | some p => rw [e2] at q; exact (show False from q).elim
  | some x =>
    rw [e] at q
    cases e2 : atKey vs k with
    | none => rw [e2] at q; exact (show False from q).elim
    | some p => exact nrel_repl k r h
theorem length_putN (es : List NE) (k : NestedKey) (b : Addr) (v : V) : (putN es k b v).length ≤ es.length + 1 := by
  unfold putN
  split
  · rw [List.length_map]; omega
  · rw [List.length_append]; exact Nat.le_refl _
theorem mem_putN {es : List NE} {k : NestedKey} {b : Addr} {v : V} {p : NE} (h : p ∈ putN es k b v) : (∃ q ∈ es, q.1 = p.1 ∧ q.2.1 = p.2.1) ∨ (p.1 = k ∧ p.2.1 = b) := by
  unfold putN at h
  split at h
  · obtain ⟨q, hq, e⟩ := List.mem_map.mp h
    refine .inl ⟨q, hq, ?_⟩
    split at e <;> (subst e; exact ⟨rfl, rfl⟩)
  · rcases List.mem_append.mp h with h | h
    · exact .inl ⟨p, h, rfl, rfl⟩
    · rw [List.mem_singleton.mp h]
      exact .inr ⟨rfl, rfl⟩
theorem KeysN.put {H : Hp} {es : List NE} {k : NestedKey} {b : Addr} {v : V} (h : KeysN H es) (hk : NIs H k (.ref b)) (hd : k.depth ≤ 8) : KeysN H (putN es k b v) := fun p hp => by
  rcases mem_putN hp with ⟨q, hq, e1, e2⟩ | ⟨e1, e2⟩
  · have := h q hq
    rw [e1, e2] at this
    exact this
  · rw [e1, e2]
    exact ⟨hk, hd⟩

section
variable {X : Cx} {pins : List (Addr × Obj)} {σ : L2.St} {H : Hp} {s : Shared} {a b : Addr} {es : List NE} {k : NestedKey} {A : Around} {E : Value → Shared → Prop}
theorem nobj_at (I : Inv X pins σ H s) (e : H a = some (NObj a es)) (hk : KeysN H es) : (a == sysModules) = false ∧ es.length ≤ sizeLine ∧ ∃ xs, Paired NRel es xs ∧ s.heap.DictOfH (nestedKind X.prog X.w) a xs := by
  obtain ⟨⟨o, arr, ep, vs, h1, h2, h3, h4, h5, h6, h7, h8⟩, _⟩ := I.hok a _ e
  refine ⟨h8, h7, vs, h4, o, arr, ep, h1, h2, h3, h5 X.w, fun x hx => ?_, by rw [← nrel_keys h4]; exact h6⟩
  have key : ∀ {es : List NE} {vs : List (NestedKey × Addr × Value)}, Paired NRel es vs → x ∈ vs → ∃ p ∈ es, NRel p x := by
    intro es vs h
    induction h with
    | nil => exact fun h => nomatch h
    | cons h t ih =>
      intro hm
      rcases List.mem_cons.mp hm with rfl | hm
      · exact ⟨_, List.mem_cons_self, h⟩
      · obtain ⟨p, hp, q⟩ := ih hm
        exact ⟨p, List.mem_cons_of_mem _ hp, q⟩
  obtain ⟨p, hp, e1, e2, _⟩ := key h4 hx
  obtain ⟨q1, q2⟩ := hk p hp
  rw [e1, e2] at q1
  rw [e1] at q2
  exact ⟨nIs_at I _ _ _ q1 rfl, q2⟩
theorem nobj_typeIs (I : Inv X pins σ H s) (e : H a = some (NObj a es)) : s.TypeIs (.ref a) "dict" ∧ (∀ b, Value.ref a = .ref b → ∃ ob, s.heap.get? b = some ob ∧ ob.dict = none) ∧ (a == sysModules) = false := by
  obtain ⟨⟨o, arr, ep, vs, h1, h2, h3, h4, h5, h6, h7, h8⟩, _⟩ := I.hok a _ e
  refine ⟨⟨o, h1, h2.1⟩, fun b q => ?_, h8⟩
  cases q
  exact ⟨o, h1, h2.2.1⟩
/-- what is looked up under y -/
def NGet (H : Hp) (a : Addr) (y : V) (r : Option V) : Prop := ∃ es k b, H a = some (NObj a es) ∧ KeysN H es ∧ y = .ref b ∧ NIs H k y ∧ k.depth ≤ 8 ∧ r = valN es k
def NPut (H : Hp) (a : Addr) (y v : V) (H' : Hp) : Prop := ∃ es k b, H a = some (NObj a es) ∧ KeysN H es ∧ y = .ref b ∧ NIs H k y ∧ k.depth ≤ 8 ∧ es.length < sizeLine ∧ H' = upd H a (NObj a (putN es k b v))
theorem nroom (hu : A.units + 65 < cLine) : (nestedKind X.prog X.w).room A.in1 := by
  have : A.units + 1 + 8 < cLine := by omega
  exact this
theorem nroom0 (hu : A.units + 65 < cLine) : (nestedKind X.prog X.w).room A := by
  have : A.units + 8 < cLine := by omega
  exact this
variable {y v : V} {u r : Value} {o : Option V}
theorem n_getItem {Q : Value → Shared → Prop} (hu : A.units + 65 < cLine) (I : Inv X pins σ H s) (g : NGet H a y (some v)) (ry : RelV y u) (h : ∀ w' s', Inv X pins σ H s' → RelV v w' → Q w' s') :
    wpAny (model X.prog X.w) A (getItem (.ref a) u) Q E s := by
  obtain ⟨es, k, b, e, hk, rfl, hn, hdp, l⟩ := g
  cases (show u = Value.ref b from ry)
  obtain ⟨hd, z, xs, rel, dd⟩ := nobj_at I e hk
  obtain ⟨w', hw, rw'⟩ := RelO.some_of (v := v) (o := (atKey xs k).map (·.2)) (by rw [l]; exact nrel_val rel k)
  obtain ⟨p, hp, hp2⟩ := Option.map_eq_some_iff.mp hw
  refine wpAny_getItem_heap (nroom hu) ⟨nIs_at I _ _ _ hn rfl, hdp⟩ dd hp ?_
  rw [hp2]
  exact h w' _ (I.tok _) rw'
theorem n_in {Q : Value → Shared → Prop} (hu : A.units + 65 < cLine) (I : Inv X pins σ H s) (g : NGet H a y o) (ry : RelV y u) (h : ∀ s', Inv X pins σ H s' → Q (.bool o.isSome) s') :
    wpAny (model X.prog X.w) A (compareOp .In u (.ref a)) Q E s := by
  obtain ⟨es, k, b, e, hk, rfl, hn, hdp, l⟩ := g
  cases (show u = Value.ref b from ry)
  obtain ⟨hd, z, xs, rel, dd⟩ := nobj_at I e hk
  refine wpAny_in_heap (nroom hu) ⟨nIs_at I _ _ _ hn rfl, hdp⟩ hd dd ?_
  have q := (nrel_val rel k).isSome_eq
  rw [Option.isSome_map] at q
  rw [← q, ← l]
  exact h _ (I.tok _)
theorem n_notIn {Q : Value → Shared → Prop} (hu : A.units + 65 < cLine) (I : Inv X pins σ H s) (g : NGet H a y o) (ry : RelV y u) (h : ∀ s', Inv X pins σ H s' → Q (.bool (!o.isSome)) s') :
    wpAny (model X.prog X.w) A (compareOp .NotIn u (.ref a)) Q E s := by
  obtain ⟨es, k, b, e, hk, rfl, hn, hdp, l⟩ := g
  cases (show u = Value.ref b from ry)
  obtain ⟨hd, z, xs, rel, dd⟩ := nobj_at I e hk
  refine wpAny_notIn_heap (nroom hu) ⟨nIs_at I _ _ _ hn rfl, hdp⟩ hd dd ?_
  have q := (nrel_val rel k).isSome_eq
  rw [Option.isSome_map] at q
  rw [← q, ← l]
  exact h _ (I.tok _)
theorem n_get1 {Q : Value → Shared → Prop} (hu : A.units + 65 < cLine) (I : Inv X pins σ H s) (g : NGet H a y o) (ry : RelV y u) (h : ∀ w' s', Inv X pins σ H s' → RelV (o.getD .non) w' → Q w' s') :
    wpAny (model X.prog X.w) A (call (.builtin "dict.get") [.ref a, u]) Q E s := by
  obtain ⟨es, k, b, e, hk, rfl, hn, hdp, l⟩ := g
  cases (show u = Value.ref b from ry)
  obtain ⟨hd, z, xs, rel, dd⟩ := nobj_at I e hk
  refine call_meetsIn PySem.F.slot_dict_get dd.typeIs PySem.F.entry_dict_get (PySem.F.args_dict_get_2 _ _) (meetsH_dict_get (nestedKind X.prog X.w) a b hd) ⟨nroom hu, k, xs, ⟨nIs_at I _ _ _ hn rfl, hdp⟩, dd, h _ _ (I.tok _) ?_⟩
  rw [l]
  exact (nrel_val rel k).getD rfl
theorem n_get2 {d : V} {Q : Value → Shared → Prop} (hu : A.units + 65 < cLine) (I : Inv X pins σ H s) (g : NGet H a y o) (ry : RelV y u) (rd : RelV d r) (h : ∀ w' s', Inv X pins σ H s' → RelV (o.getD d) w' → Q w' s') :
    wpAny (model X.prog X.w) A (call (.builtin "dict.get") [.ref a, u, r]) Q E s := by
  obtain ⟨es, k, b, e, hk, rfl, hn, hdp, l⟩ := g
  cases (show u = Value.ref b from ry)
  obtain ⟨hd, z, xs, rel, dd⟩ := nobj_at I e hk
  refine call_meetsIn PySem.F.slot_dict_get dd.typeIs PySem.F.entry_dict_get (PySem.F.args_dict_get_3 _ _ _) (meetsH_dict_get_default (nestedKind X.prog X.w) a b hd r) ⟨nroom hu, k, xs, ⟨nIs_at I _ _ _ hn rfl, hdp⟩, dd, h _ _ (I.tok _) ?_⟩
  rw [l]
  exact (nrel_val rel k).getD rd
/-- behind a store -/
theorem n_stored {h' : Heap} {t' : Nat} {xs : List (NestedKey × Addr × Value)} {v : V} {r : Value} (I : Inv X pins σ H s) (e : H a = some (NObj a es)) (hk : KeysN H es) (hn : NIs H k (.ref b)) (hl : es.length < sizeLine) (rel : Paired NRel es xs) (hd : (a == sysModules) = false)
    (rv : RelV v r) (dd' : h'.DictOfH (nestedKind X.prog X.w) a (storedH xs k b r)) (hs : Heap.SameBut a s.heap h') : Inv X pins σ (upd H a (NObj a (putN es k b v))) { s with heap := h', toks := t' } := by
  obtain ⟨q, arr, ep, hq, h2, h3, h4, _, h5⟩ := dd'
  have rel' := nrel_put (k := k) (b := b) rv rel
  refine d_write I (by rw [e]; exact True.intro) hs ⟨q, hq⟩ (nobj_ok ⟨q, arr, ep, _, hq, h2, h3, rel', fun w => ?_, by rw [nrel_keys rel']; exact h5, by have := length_putN es k b v; omega, hd⟩)
  rw [h4]
  refine List.map_congr_left fun x hx => ?_
  have hx' : x.1 ∈ (putN es k b v).map (·.1) := by rw [nrel_keys rel']; exact List.mem_map_of_mem hx
  obtain ⟨p, hp, ep'⟩ := List.mem_map.mp hx'
  have tx : noTx x.1 = true := by
    rw [← ep']
    rcases mem_putN hp with ⟨q, hq, e1, e2⟩ | ⟨e1, e2⟩
    · rw [← e1]; exact NIs.noTx _ _ (hk q hq).1
    · rw [e1]; exact NIs.noTx _ _ hn
  unfold entryOfKey nEnt
  show (⟨x.1.hash X.w, _, _⟩ : DictEntry) = _
  rw [hash_one X.w w x.1 tx]
theorem n_setItem {H' : Hp} {Q : Unit → Shared → Prop} (hu : A.units + 65 < cLine) (I : Inv X pins σ H s) (g : NPut H a y v H') (ry : RelV y u) (rv : RelV v r) (h : ∀ s', Inv X pins σ H' s' → Q () s') :
    wpAny (model X.prog X.w) A (setItem (.ref a) u r) Q E s := by
  obtain ⟨es, k, b, e, hk, rfl, hn, hdp, hl, rfl⟩ := g
  cases (show u = Value.ref b from ry)
  obtain ⟨hd, z, xs, rel, dd⟩ := nobj_at I e hk
  have hz : xs.length ≤ sizeLine := by rw [← Paired.length rel]; exact z
  exact wpAny_setItem_heap (hsz := hz) (nroom hu) ⟨nIs_at I _ _ _ hn rfl, hdp⟩ dd fun h' dd' hs => h _ (n_stored I e hk hn hl rel hd rv dd' hs)
theorem n_dictSet {H' : Hp} {Q : Unit → Shared → Prop} (hu : A.units + 65 < cLine) (I : Inv X pins σ H s) (g : NPut H a y v H') (ry : RelV y u) (rv : RelV v r) (h : ∀ s', Inv X pins σ H' s' → Q () s') :
    wpAny (model X.prog X.w) A (dictSet a u r) Q E s := by
  obtain ⟨es, k, b, e, hk, rfl, hn, hdp, hl, rfl⟩ := g
  cases (show u = Value.ref b from ry)
  obtain ⟨hd, z, xs, rel, dd⟩ := nobj_at I e hk
  have hz : xs.length ≤ sizeLine := by rw [← Paired.length rel]; exact z
  exact wpAny_dictSet_heap (hsz := hz) (nroom0 hu) ⟨nIs_at I _ _ _ hn rfl, hdp⟩ dd fun h' dd' hs => h _ (n_stored I e hk hn hl rel hd rv dd' hs)
theorem n_setd {d : V} {Q : Value → Shared → Prop} (hu : A.units + 65 < cLine) (I : Inv X pins σ H s) (e : H a = some (NObj a es)) (hk : KeysN H es) (hn : NIs H k (.ref b)) (hdp : k.depth ≤ 8) (hl : es.length < sizeLine) (rd : RelV d r)
    (h1 : ∀ v, valN es k = some v → ∀ (w' : Value) (s' : Shared), Inv X pins σ H s' → RelV v w' → Q w' s') (h2 : valN es k = none → ∀ (w' : Value) (s' : Shared), Inv X pins σ (upd H a (NObj a (putN es k b d))) s' → RelV d w' → Q w' s') :
    wpAny (model X.prog X.w) A (call (.builtin "dict.setdefault") [.ref a, .ref b, r]) Q E s := by
  obtain ⟨hd, z, xs, rel, dd⟩ := nobj_at I e hk
  have hz : xs.length ≤ sizeLine := by rw [← Paired.length rel]; exact z
  have q := nrel_val rel k
  refine call_setdefault_heap (hsz := hz) (nroom hu) ⟨nIs_at I _ _ _ hn rfl, hdp⟩ hd dd (fun p hp => ?_) fun hnone h' dd' hs => ?_
  · rw [hp] at q
    cases q0 : valN es k with
    | none => rw [q0] at q; exact (show False from q).elim
    | some v0 => rw [q0] at q; exact h1 v0 q0 _ _ (I.tok _) q
  · rw [hnone] at q
    cases q0 : valN es k with
    | some v0 => rw [q0] at q; exact (show False from q).elim
    | none => exact h2 q0 _ _ (n_stored I e hk hn hl rel hd rd dd' hs) rd
end

/-! ### rules -/
def tNGet (td ty : TE) : TE := fun σ H Q => td σ H fun x H1 => ty σ H1 fun y H2 => ∃ a v, x = .ref a ∧ NGet H2 a y (some v) ∧ Q v H2
def tNIn (ty td : TE) : TE := fun σ H Q => ty σ H fun y H1 => td σ H1 fun x H2 => ∃ a o, x = .ref a ∧ NGet H2 a y o ∧ Q (.bl o.isSome) H2
def tNNotIn (ty td : TE) : TE := fun σ H Q => ty σ H fun y H1 => td σ H1 fun x H2 => ∃ a o, x = .ref a ∧ NGet H2 a y o ∧ Q (.bl (!o.isSome)) H2
def sNPut (td ty tv : TE) : TS := fun D σ H => tv σ H fun v H1 => td σ H1 fun x H2 => ty σ H2 fun y H3 => ∃ a H4, x = .ref a ∧ NPut H3 a y v H4 ∧ D.nx σ H4
def tNGet1 (td ty : TE) : TE := fun σ H Q => td σ H fun x H1 => ∃ a es, x = .ref a ∧ H1 a = some (NObj a es) ∧ ty σ H1 fun y H2 => ∃ o, NGet H2 a y o ∧ Q (o.getD .non) H2
def tNGet2 (td ty tx : TE) : TE := fun σ H Q => td σ H fun x H1 => ∃ a es, x = .ref a ∧ H1 a = some (NObj a es) ∧ ty σ H1 fun y H2 => tx σ H2 fun z H3 => ∃ o, NGet H3 a y o ∧ Q (o.getD z) H3
def tNSetd (td ty tx : TE) : TE := fun σ H Q => td σ H fun x H1 => ∃ a es, x = .ref a ∧ H1 a = some (NObj a es) ∧ ty σ H1 fun y H2 => tx σ H2 fun z H3 => ∃ es k b, H3 a = some (NObj a es) ∧ KeysN H3 es ∧ y = .ref b ∧ NIs H3 k y ∧ k.depth ≤ 8 ∧ es.length < sizeLine ∧
  (∀ v, valN es k = some v → Q v H3) ∧ (valN es k = none → Q z (upd H3 a (NObj a (putN es k b z))))
def tNNew : TE := fun _ H Q => ∀ p, H p = none → Q (.ref p) (upd H p (NObj p []))
/-- {y: v} -/
def tNOne (ty tv : TE) : TE := fun σ H Q => ∀ p, H p = none → ty σ (upd H p (NObj p [])) fun y H1 => tv σ H1 fun v H2 => ∃ H3, NPut H2 p y v H3 ∧ Q (.ref p) H3
def rLenN : List V → Hp → VK → Prop := fun xs H Q => ∃ (p : Addr) (es : List NE), xs = [.ref p] ∧ H p = some (NObj p es) ∧ KeysN H es ∧ Q (.int ((es.length : Nat) : Int)) H
section
variable {X : Cx} {o i e f value k : Expr} {pos pos' apos cpos : Pos} {td ty tv tx : TE}
theorem pe_nget (hu : X.A.units + 65 < cLine) (ho : PE X o td) (hi : PE X i ty) (hs : NoSl i) : PE X (.Subscript o i pos) (tNGet td ty) := by
  refine ⟨fun pins s σ H Q I h => ?_⟩
  refine subD_of PySem.F.slot_dict_getitem.lookup hs (thn (ho.run pins s σ H _ I h) fun u s1 ⟨x, H1, I1, rx, q1⟩ => thn (hi.run pins s1 σ H1 _ I1 q1) fun iv s2 ⟨y, H2, I2, ry, a, v, ex, g, q2⟩ => ?_)
  subst ex
  obtain rfl : u = Value.ref a := rx
  have ⟨es, _, _, e, _⟩ := g
  exact ⟨(nobj_typeIs I2 e).1, n_getItem hu I2 g ry fun w' s3 I3 rw' => ⟨v, H2, I3, rw', q2⟩⟩
theorem pc_nin (hu : X.A.units + 65 < cLine) (hi : PE X i ty) (ho : PE X o td) : PC X .In i o (tNIn ty td) := by
  refine ⟨fun pins s σ H Q I h => ?_⟩
  refine thn (hi.run pins s σ H _ I h) fun iv s1 ⟨y, H1, I1, ry, q1⟩ => thn (ho.run pins s1 σ H1 _ I1 q1) fun u s2 ⟨x, H2, I2, rx, a, ov, ex, g, q2⟩ => ?_
  subst ex
  obtain rfl : u = Value.ref a := rx
  exact n_in hu I2 g ry fun s3 I3 => ⟨.bl ov.isSome, H2, I3, rfl, q2⟩
theorem pc_nnotin (hu : X.A.units + 65 < cLine) (hi : PE X i ty) (ho : PE X o td) : PC X .NotIn i o (tNNotIn ty td) := by
  refine ⟨fun pins s σ H Q I h => ?_⟩
  refine thn (hi.run pins s σ H _ I h) fun iv s1 ⟨y, H1, I1, ry, q1⟩ => thn (ho.run pins s1 σ H1 _ I1 q1) fun u s2 ⟨x, H2, I2, rx, a, ov, ex, g, q2⟩ => ?_
  subst ex
  obtain rfl : u = Value.ref a := rx
  exact n_notIn hu I2 g ry fun s3 I3 => ⟨.bl (!ov.isSome), H2, I3, rfl, q2⟩
theorem ps_nput (hu : X.A.units + 65 < cLine) (ho : PE X o td) (hi : PE X i ty) (hv : PE X value tv) (hs : swapsWith value (some (.Subscript o i pos')) pos.line X.env = pure false) :
    PS X (.Assign [.Subscript o i pos'] value pos) (sNPut td ty tv) := by
  refine ⟨fun pins s σ H D I h => ?_⟩
  refine wpAny_Assign_Subscript (thn (hv.run pins s σ H _ I h) fun r s1 ⟨v, H1, I1, rv, q1⟩ => thn (ho.run pins s1 σ H1 _ I1 q1) fun u s2 ⟨x, H2, I2, rx, q2⟩ => thn (hi.run pins s2 σ H2 _ I2 q2) fun iv s3 ⟨y, H3, I3, ry, a, H4, ex, g, q3⟩ => ?_) hs
  subst ex
  obtain rfl : u = Value.ref a := rx
  exact n_setItem hu I3 g ry rv fun s4 I4 => ⟨σ, H4, I4, q3⟩
theorem pe_nget1 (hu : X.A.units + 65 < cLine) (ho : PE X o td) (he : PE X e ty) (m : M1 X o "get" apos e cpos) : PE X (.Call (.Attribute o "get" apos) [e] [] cpos) (tNGet1 td ty) := by
  refine ⟨fun pins s σ H Q I h => ?_⟩
  refine wpAny_Call_method m.base m.few m.line PySem.F.plainAttrs_dict PySem.F.slot_dict_get PySem.F.type_dict_get (thn (ho.run pins s σ H _ I h) fun u s1 ⟨x, H1, I1, rx, a, es, ex, d, q1⟩ => ?_)
  subst ex
  obtain rfl : u = Value.ref a := rx
  obtain ⟨t1, t2, _⟩ := nobj_typeIs I1 d
  refine ⟨t1, t2, ?_⟩
  rw [m.trees]
  refine Calls.callWith_builtin rfl (Calls.evalArgs_plain (Calls.spliced_cons (thn (he.run pins s1 σ H1 _ I1 q1) fun iv s2 ⟨y, H2, I2, ry, ov, g, q2⟩ => Calls.spliced_nil ?_)))
  exact n_get1 hu I2 g ry fun w' s3 I3 rw' => ⟨_, H2, I3, rw', q2⟩
theorem pe_nget2 (hu : X.A.units + 65 < cLine) (ho : PE X o td) (he : PE X e ty) (hf : PE X f tx) (m : M2 X o "get" apos e f cpos) : PE X (.Call (.Attribute o "get" apos) [e, f] [] cpos) (tNGet2 td ty tx) := by
  refine ⟨fun pins s σ H Q I h => ?_⟩
  refine wpAny_Call_method m.base m.few m.line PySem.F.plainAttrs_dict PySem.F.slot_dict_get PySem.F.type_dict_get (thn (ho.run pins s σ H _ I h) fun u s1 ⟨x, H1, I1, rx, a, es, ex, d, q1⟩ => ?_)
  subst ex
  obtain rfl : u = Value.ref a := rx
  obtain ⟨t1, t2, _⟩ := nobj_typeIs I1 d
  refine ⟨t1, t2, ?_⟩
  rw [m.trees]
  refine Calls.callWith_builtin rfl (Calls.evalArgs_plain (Calls.spliced_cons (thn (he.run pins s1 σ H1 _ I1 q1) fun iv s2 ⟨y, H2, I2, ry, q2⟩ =>
    Calls.spliced_cons (thn (hf.run pins s2 σ H2 _ I2 q2) fun fv s3 ⟨z, H3, I3, rz, ov, g, q3⟩ => Calls.spliced_nil ?_))))
  exact n_get2 hu I3 g ry rz fun w' s4 I4 rw' => ⟨_, H3, I4, rw', q3⟩
theorem pe_nsetd (hu : X.A.units + 65 < cLine) (ho : PE X o td) (he : PE X e ty) (hf : PE X f tx) (m : M2 X o "setdefault" apos e f cpos) : PE X (.Call (.Attribute o "setdefault" apos) [e, f] [] cpos) (tNSetd td ty tx) := by
  refine ⟨fun pins s σ H Q I h => ?_⟩
  refine wpAny_Call_method m.base m.few m.line PySem.F.plainAttrs_dict PySem.F.slot_dict_setdefault PySem.F.type_dict_setdefault (thn (ho.run pins s σ H _ I h) fun u s1 ⟨x, H1, I1, rx, a, es0, ex, d, q1⟩ => ?_)
  subst ex
  obtain rfl : u = Value.ref a := rx
  obtain ⟨t1, t2, _⟩ := nobj_typeIs I1 d
  refine ⟨t1, t2, ?_⟩
  rw [m.trees]
  refine Calls.callWith_builtin rfl (Calls.evalArgs_plain (Calls.spliced_cons (thn (he.run pins s1 σ H1 _ I1 q1) fun iv s2 ⟨y, H2, I2, ry, q2⟩ =>
    Calls.spliced_cons (thn (hf.run pins s2 σ H2 _ I2 q2) fun fv s3 ⟨z, H3, I3, rz, es, k, b, ea, hk, ey, hn, hdp, hl, q3, q4⟩ => Calls.spliced_nil ?_))))
  subst ey
  cases (show iv = Value.ref b from ry)
  exact n_setd hu I3 ea hk hn hdp hl rz (fun v hv w' s4 I4 rw' => ⟨v, _, I4, rw', q3 v hv⟩) fun hn w' s4 I4 rw' => ⟨z, _, I4, rw', q4 hn⟩
theorem nobj_new (h : Heap) (hb : sysModules < h.objs.size) : NBody h.objs.size [] (h.push { cls := .type "dict", data := .dict #[] }) :=
  ⟨_, #[], 0, [], Heap.get?_push_size _ rfl, ⟨rfl, rfl, rfl⟩, rfl, .nil, fun _ => rfl, List.nodup_nil, Nat.zero_le _, beq_eq_false_iff_ne.mpr (Ne.symm (Nat.ne_of_lt hb))⟩
theorem pe_nnew : PE X (.Dict [] [] pos) tNNew := ⟨fun pins s σ H Q I h =>
  wpAny_Dict_empty ⟨.ref s.heap.objs.size, _, I.laid (a := s.heap.objs.size) (o := NObj s.heap.objs.size []) (t' := s.toks) (fun _ _ q => Heap.get?_push_of_some _ q) (Nat.le_refl _) (nobj_ok (nobj_new s.heap I.big)), rfl, h _ (I.hok.fresh (Nat.le_refl _))⟩⟩
theorem pe_none_ (hu : X.A.units + 65 < cLine) (hk : PE X k ty) (hv : PE X value tv) : PE X (.Dict [some k] [value] pos) (tNOne ty tv) := by
  refine ⟨fun pins s σ H Q I q => ?_⟩
  have hn := I.hok.fresh (Nat.le_refl s.heap.objs.size)
  have I1 := I.laid (a := s.heap.objs.size) (o := NObj s.heap.objs.size []) (h' := s.heap.push { cls := .type "dict", data := .dict #[] }) (t' := s.toks) (fun _ _ q => Heap.get?_push_of_some _ q) (Nat.le_refl _) (nobj_ok (nobj_new s.heap I.big))
  refine wpAny_Dict_any rfl rfl (fun z => nomatch z) (by show 1 ≤ 15; omega) ?_
  refine pairTrees_cons_walk (thn (hk.run pins _ σ _ _ I1 (q _ hn)) fun u s1 ⟨y, H1, J1, ry, q1⟩ => thn (hv.run pins s1 σ H1 _ J1 q1) fun w2 s2 ⟨v, H2, J2, rv, H3, g, q2⟩ => pairTrees_nil_walk ?_)
  unfold storeAll
  rw [List.forIn_cons]
  refine wpAny_bind (wpAny_bind (n_dictSet hu J2 g ry rv fun s3 J3 => wpAny_pure ?_))
  show wpAny _ _ (forIn ([] : List (Value × Value)) PUnit.unit _) _ _ s3
  rw [List.forIn_nil]
  exact wpAny_pure ⟨.ref s.heap.objs.size, H3, J3, rfl, q2⟩
theorem call_lenN : CallR X (.builtin "len") rLenN := by
  intro pins s σ H xs us Q I r h
  obtain ⟨p, es, rfl, hp, hk, q⟩ := h
  obtain ⟨u, rfl, rx⟩ := vals1 r
  obtain rfl : u = .ref p := rx
  obtain ⟨hd, z, ys, rel, dd⟩ := nobj_at I hp hk
  have hl : es.length = ys.length := Paired.length rel
  refine call_len_dictH hd dd (by rw [← hl]; rw [sizeLine_eq] at z; omega) ?_
  exact ⟨.int es.length, H, I.tok _, ⟨_, by rw [hl]⟩, q⟩
end
end FL

/-! FL1: plain data for Python values, what a value stands for in the abstract heap, and how it stays. -/
namespace FL
open PySem PySem.Spec PyProof.Rows L2

/-- the built-in classes that a value may be asked for -/
inductive TyN where
  | non | bl | int | str | tup | lst | dic
deriving DecidableEq
def TyN.s : TyN → String
  | .non => "NoneType"
  | .bl => "bool"
  | .int => "int"
  | .str => "str"
  | .tup => "tuple"
  | .lst => "list"
  | .dic => "dict"
/-- plain data -/
inductive D where
  | non
  | bl (b : Bool)
  | int (i : Int)
  | str (x : Str)
  | tup (xs : List D)
  | lst (xs : List D)
  | dI (kvs : List (Int × D))
  | dT (kvs : List (List Int × D))
  | dS (kvs : List (Str × D))
  | dN (kvs : List (NestedKey × D))
  | ins (c : Nat) (xs : List D)
  | scr (ns : List Int)
  | ty (n : TyN)
deriving Inhabited

/-- an exception: its class by number, its one whole number -/
structure Exn where
  c : Nat
  n : Option Int := none

inductive Res (α : Type) where
  | ok (a : α)
  | exc (e : Exn)
  | stuck
namespace Res
variable {α β : Type}
def bind (r : Res α) (f : α → Res β) : Res β := match r with
  | .ok a => f a
  | .exc e => .exc e
  | .stuck => .stuck
def wp (r : Res α) (E : Exn → Prop) (k : α → Prop) : Prop := match r with
  | .ok a => k a
  | .exc e => E e
  | .stuck => False
@[simp] theorem bind_ok (a : α) (f : α → Res β) : (Res.ok a).bind f = f a := id rfl
@[simp] theorem bind_exc (e : Exn) (f : α → Res β) : (Res.exc e).bind f = .exc e := id rfl
@[simp] theorem bind_stuck (f : α → Res β) : (Res.stuck : Res α).bind f = .stuck := id rfl
theorem wp_bind {r : Res α} {f : α → Res β} {E : Exn → Prop} {k : β → Prop} (h : (r.bind f).wp E k) : r.wp E fun a => (f a).wp E k := by
  cases r with
  | ok a => exact h
  | exc e => exact h
  | stuck => exact h
theorem wp_mono {r : Res α} {E E' : Exn → Prop} {k k' : α → Prop} (h : r.wp E k) (hE : ∀ e, E e → E' e) (hk : ∀ a, r = .ok a → k a → k' a) : r.wp E' k' := by
  cases r with
  | ok a => exact hk a rfl h
  | exc e => exact hE e h
  | stuck => exact h
theorem wp_bind' {r : Res α} {f : α → Res β} {E : Exn → Prop} {k : β → Prop} (h : r.wp E fun a => (f a).wp E k) : (r.bind f).wp E k := by
  cases r with
  | ok a => exact h
  | exc e => exact h
  | stuck => exact h
end Res

/-- the classes: address, names of the fields -/
abbrev CE := Nat → Option (Addr × List Str)

mutual
/-- v stands for d among what is frozen -/
def Rep (K : PySem.W.Frag) (ce : CE) (F : Hp) : D → V → Prop
  | .non, v => v = .non
  | .bl b, v => v = .bl b
  | .int i, v => v = .int i
  | .str x, v => v = .str x
  | .ty n, v => v = .ty n.s
  | .tup ds, v => ∃ a vs, v = .ref a ∧ F a = some (.tup vs) ∧ Reps K ce F ds vs
  | .lst ds, v => ∃ a vs, v = .ref a ∧ F a = some (.lst vs) ∧ Reps K ce F ds vs
  | .scr ns, v => ∃ a, v = .ref a ∧ SqL K F a (ns.map V.int)
  | .dI kvs, v => ∃ a l, v = .ref a ∧ F a = some (.dK l) ∧ RepsI K ce F kvs l
  | .dS kvs, v => ∃ a l, v = .ref a ∧ F a = some (.dK l) ∧ RepsS K ce F kvs l
  | .dT kvs, v => ∃ a l, v = .ref a ∧ F a = some (.dT l) ∧ RepsT K ce F kvs l
  | .dN kvs, v => ∃ a es, v = .ref a ∧ F a = some (NObj a es) ∧ RepsN K ce F kvs es
  | .ins c ds, v => ∃ a C dx ns vs, v = .ref a ∧ ce c = some (C, ns) ∧ F a = some (.ins C dx (ns.zip vs)) ∧ ds.length ≤ ns.length ∧ Reps K ce F ds vs
def Reps (K : PySem.W.Frag) (ce : CE) (F : Hp) : List D → List V → Prop
  | [], vs => vs = []
  | d :: ds, vs => ∃ v r, vs = v :: r ∧ Rep K ce F d v ∧ Reps K ce F ds r
def RepsI (K : PySem.W.Frag) (ce : CE) (F : Hp) : List (Int × D) → List (Key × V) → Prop
  | [], l => l = []
  | (k, d) :: ds, l => ∃ v r, l = (Sum.inl k, v) :: r ∧ Rep K ce F d v ∧ RepsI K ce F ds r
def RepsS (K : PySem.W.Frag) (ce : CE) (F : Hp) : List (Str × D) → List (Key × V) → Prop
  | [], l => l = []
  | (k, d) :: ds, l => ∃ v r, l = (Sum.inr k, v) :: r ∧ Rep K ce F d v ∧ RepsS K ce F ds r
def RepsT (K : PySem.W.Frag) (ce : CE) (F : Hp) : List (List Int × D) → List (List Key × V) → Prop
  | [], l => l = []
  | (k, d) :: ds, l => ∃ v r, l = (k.map Sum.inl, v) :: r ∧ Rep K ce F d v ∧ RepsT K ce F ds r
def RepsN (K : PySem.W.Frag) (ce : CE) (F : Hp) : List (NestedKey × D) → List NE → Prop
  | [], l => l = []
  | (k, d) :: ds, l => ∃ b v r, l = (k, b, v) :: r ∧ (NIs F k (.ref b) ∧ k.depth ≤ 8) ∧ Rep K ce F d v ∧ RepsN K ce F ds r
end

/-- the object o stands for d, its parts frozen -/
def ObjRep (K : PySem.W.Frag) (ce : CE) (F : Hp) (a : Addr) : D → HO → Prop
  | .tup ds, o => ∃ vs, o = .tup vs ∧ Reps K ce F ds vs
  | .lst ds, o => ∃ vs, o = .lst vs ∧ Reps K ce F ds vs
  | .dI kvs, o => ∃ l, o = .dK l ∧ RepsI K ce F kvs l
  | .dS kvs, o => ∃ l, o = .dK l ∧ RepsS K ce F kvs l
  | .dT kvs, o => ∃ l, o = .dT l ∧ RepsT K ce F kvs l
  | .dN kvs, o => ∃ es, o = NObj a es ∧ RepsN K ce F kvs es
  | .ins c ds, o => ∃ C dx ns vs, ce c = some (C, ns) ∧ o = .ins C dx (ns.zip vs) ∧ ds.length ≤ ns.length ∧ Reps K ce F ds vs
  | _, _ => False

/-- v stands for d: its own object in H, what is within among the frozen -/
def BRep (K : PySem.W.Frag) (ce : CE) (F H : Hp) : D → V → Prop
  | .non, v => v = .non
  | .bl b, v => v = .bl b
  | .int i, v => v = .int i
  | .str x, v => v = .str x
  | .ty n, v => v = .ty n.s
  | .tup ds, v => ∃ a vs, v = .ref a ∧ H a = some (.tup vs) ∧ Reps K ce F ds vs
  | .lst ds, v => ∃ a vs, v = .ref a ∧ H a = some (.lst vs) ∧ Reps K ce F ds vs
  | .scr ns, v => ∃ a, v = .ref a ∧ SqL K H a (ns.map V.int)
  | .dI kvs, v => ∃ a l, v = .ref a ∧ H a = some (.dK l) ∧ RepsI K ce F kvs l
  | .dS kvs, v => ∃ a l, v = .ref a ∧ H a = some (.dK l) ∧ RepsS K ce F kvs l
  | .dT kvs, v => ∃ a l, v = .ref a ∧ H a = some (.dT l) ∧ RepsT K ce F kvs l
  | .dN kvs, v => ∃ a es, v = .ref a ∧ H a = some (NObj a es) ∧ RepsN K ce F kvs es
  | .ins c ds, v => ∃ a C dx ns vs, v = .ref a ∧ ce c = some (C, ns) ∧ H a = some (.ins C dx (ns.zip vs)) ∧ ds.length ≤ ns.length ∧ Reps K ce F ds vs
def BReps (K : PySem.W.Frag) (ce : CE) (F H : Hp) : List D → List V → Prop
  | [], vs => vs = []
  | d :: ds, vs => ∃ v r, vs = v :: r ∧ BRep K ce F H d v ∧ BReps K ce F H ds r

section
variable {K : PySem.W.Frag} {ce : CE} {F F' H H' : Hp}
theorem sameT {a : Addr} {xs : List V} (e : Same H H') (h : SqT K H a xs) : SqT K H' a xs := by
  rcases h with (h | ⟨o, h⟩) | h
  · exact .inl (.inl (e _ _ h))
  · exact .inl (.inr ⟨o, e _ _ h⟩)
  · exact .inr h
mutual
theorem Rep.mono (s : Same F F') : ∀ (d : D) (v : V), Rep K ce F d v → Rep K ce F' d v
  | .non, v, h => by unfold Rep at h ⊢; exact h
  | .bl b, v, h => by unfold Rep at h ⊢; exact h
  | .int i, v, h => by unfold Rep at h ⊢; exact h
  | .str x, v, h => by unfold Rep at h ⊢; exact h
  | .ty x, v, h => by unfold Rep at h ⊢; exact h
  | .tup ds, v, h => by
    unfold Rep at h ⊢
    obtain ⟨a, vs, e, h1, h2⟩ := h
    exact ⟨a, vs, e, s _ _ h1, Reps.mono s ds vs h2⟩
  | .lst ds, v, h => by
    unfold Rep at h ⊢
    obtain ⟨a, vs, e, h1, h2⟩ := h
    exact ⟨a, vs, e, s _ _ h1, Reps.mono s ds vs h2⟩
  | .scr ns, v, h => by
    unfold Rep at h ⊢
    obtain ⟨a, e, h1⟩ := h
    exact ⟨a, e, s.seq h1⟩
  | .dI kvs, v, h => by
    unfold Rep at h ⊢
    obtain ⟨a, l, e, h1, h2⟩ := h
    exact ⟨a, l, e, s _ _ h1, RepsI.mono s kvs l h2⟩
  | .dS kvs, v, h => by
    unfold Rep at h ⊢
    obtain ⟨a, l, e, h1, h2⟩ := h
    exact ⟨a, l, e, s _ _ h1, RepsS.mono s kvs l h2⟩
  | .dT kvs, v, h => by
    unfold Rep at h ⊢
    obtain ⟨a, l, e, h1, h2⟩ := h
    exact ⟨a, l, e, s _ _ h1, RepsT.mono s kvs l h2⟩
  | .dN kvs, v, h => by
    unfold Rep at h ⊢
    obtain ⟨a, l, e, h1, h2⟩ := h
    exact ⟨a, l, e, s _ _ h1, RepsN.mono s kvs l h2⟩
  | .ins c ds, v, h => by
    unfold Rep at h ⊢
    obtain ⟨a, C, dx, ns, vs, e, e2, h1, hl, h2⟩ := h
    exact ⟨a, C, dx, ns, vs, e, e2, s _ _ h1, hl, Reps.mono s ds vs h2⟩
theorem Reps.mono (s : Same F F') : ∀ (ds : List D) (vs : List V), Reps K ce F ds vs → Reps K ce F' ds vs
  | [], vs, h => by unfold Reps at h ⊢; exact h
  | d :: ds, vs, h => by
    unfold Reps at h ⊢
    obtain ⟨v, r, e, h1, h2⟩ := h
    exact ⟨v, r, e, Rep.mono s d v h1, Reps.mono s ds r h2⟩
theorem RepsI.mono (s : Same F F') : ∀ (ds : List (Int × D)) (l : List (Key × V)), RepsI K ce F ds l → RepsI K ce F' ds l
  | [], vs, h => by unfold RepsI at h ⊢; exact h
  | (k, d) :: ds, vs, h => by
    unfold RepsI at h ⊢
    obtain ⟨v, r, e, h1, h2⟩ := h
    exact ⟨v, r, e, Rep.mono s d v h1, RepsI.mono s ds r h2⟩
theorem RepsS.mono (s : Same F F') : ∀ (ds : List (Str × D)) (l : List (Key × V)), RepsS K ce F ds l → RepsS K ce F' ds l
  | [], vs, h => by unfold RepsS at h ⊢; exact h
  | (k, d) :: ds, vs, h => by
    unfold RepsS at h ⊢
    obtain ⟨v, r, e, h1, h2⟩ := h
    exact ⟨v, r, e, Rep.mono s d v h1, RepsS.mono s ds r h2⟩
theorem RepsT.mono (s : Same F F') : ∀ (ds : List (List Int × D)) (l : List (List Key × V)), RepsT K ce F ds l → RepsT K ce F' ds l
  | [], vs, h => by unfold RepsT at h ⊢; exact h
  | (k, d) :: ds, vs, h => by
    unfold RepsT at h ⊢
    obtain ⟨v, r, e, h1, h2⟩ := h
    exact ⟨v, r, e, Rep.mono s d v h1, RepsT.mono s ds r h2⟩
theorem RepsN.mono (s : Same F F') : ∀ (ds : List (NestedKey × D)) (l : List NE), RepsN K ce F ds l → RepsN K ce F' ds l
  | [], vs, h => by unfold RepsN at h ⊢; exact h
  | (k, d) :: ds, vs, h => by
    unfold RepsN at h ⊢
    obtain ⟨b, v, r, e, h0, h1, h2⟩ := h
    exact ⟨b, v, r, e, ⟨NIs.mono s _ _ h0.1, h0.2⟩, Rep.mono s d v h1, RepsN.mono s ds r h2⟩
end
theorem ObjRep.mono {a : Addr} (s : Same F F') (d : D) (o : HO) (h : ObjRep K ce F a d o) : ObjRep K ce F' a d o := by
  cases d with
  | tup ds => obtain ⟨vs, e, h⟩ := h; exact ⟨vs, e, Reps.mono s ds vs h⟩
  | lst ds => obtain ⟨vs, e, h⟩ := h; exact ⟨vs, e, Reps.mono s ds vs h⟩
  | dI ds => obtain ⟨vs, e, h⟩ := h; exact ⟨vs, e, RepsI.mono s ds vs h⟩
  | dS ds => obtain ⟨vs, e, h⟩ := h; exact ⟨vs, e, RepsS.mono s ds vs h⟩
  | dT ds => obtain ⟨vs, e, h⟩ := h; exact ⟨vs, e, RepsT.mono s ds vs h⟩
  | dN ds => obtain ⟨vs, e, h⟩ := h; exact ⟨vs, e, RepsN.mono s ds vs h⟩
  | ins c ds => obtain ⟨C, dx, ns, vs, e, e2, hl, h⟩ := h; exact ⟨C, dx, ns, vs, e, e2, hl, Reps.mono s ds vs h⟩
  | _ => exact h.elim
theorem BRep.mono (s : Same F F') (t : Same H H') (d : D) (v : V) (h : BRep K ce F H d v) : BRep K ce F' H' d v := by
  cases d with
  | tup ds => obtain ⟨a, vs, e, h1, h⟩ := h; exact ⟨a, vs, e, t _ _ h1, Reps.mono s ds vs h⟩
  | lst ds => obtain ⟨a, vs, e, h1, h⟩ := h; exact ⟨a, vs, e, t _ _ h1, Reps.mono s ds vs h⟩
  | scr ns => obtain ⟨a, e, h1⟩ := h; exact ⟨a, e, t.seq h1⟩
  | dI ds => obtain ⟨a, vs, e, h1, h⟩ := h; exact ⟨a, vs, e, t _ _ h1, RepsI.mono s ds vs h⟩
  | dS ds => obtain ⟨a, vs, e, h1, h⟩ := h; exact ⟨a, vs, e, t _ _ h1, RepsS.mono s ds vs h⟩
  | dT ds => obtain ⟨a, vs, e, h1, h⟩ := h; exact ⟨a, vs, e, t _ _ h1, RepsT.mono s ds vs h⟩
  | dN ds => obtain ⟨a, vs, e, h1, h⟩ := h; exact ⟨a, vs, e, t _ _ h1, RepsN.mono s ds vs h⟩
  | ins c ds => obtain ⟨a, C, dx, ns, vs, e, e2, h1, hl, h⟩ := h; exact ⟨a, C, dx, ns, vs, e, e2, t _ _ h1, hl, Reps.mono s ds vs h⟩
  | _ => exact h
theorem BReps.mono (s : Same F F') (t : Same H H') : ∀ (ds : List D) (vs : List V), BReps K ce F H ds vs → BReps K ce F' H' ds vs
  | [], vs, h => h
  | d :: ds, vs, h => by
    obtain ⟨v, r, e, h1, h2⟩ := h
    exact ⟨v, r, e, BRep.mono s t d v h1, BReps.mono s t ds r h2⟩
/-- what is frozen is there -/
theorem Rep.b (t : Same F H) {d : D} {v : V} (h : Rep K ce F d v) : BRep K ce F H d v := by
  cases d <;> unfold Rep at h
  case tup ds => obtain ⟨a, vs, e, h1, h⟩ := h; exact ⟨a, vs, e, t _ _ h1, h⟩
  case lst ds => obtain ⟨a, vs, e, h1, h⟩ := h; exact ⟨a, vs, e, t _ _ h1, h⟩
  case scr ns => obtain ⟨a, e, h1⟩ := h; exact ⟨a, e, t.seq h1⟩
  case dI ds => obtain ⟨a, vs, e, h1, h⟩ := h; exact ⟨a, vs, e, t _ _ h1, h⟩
  case dS ds => obtain ⟨a, vs, e, h1, h⟩ := h; exact ⟨a, vs, e, t _ _ h1, h⟩
  case dT ds => obtain ⟨a, vs, e, h1, h⟩ := h; exact ⟨a, vs, e, t _ _ h1, h⟩
  case dN ds => obtain ⟨a, vs, e, h1, h⟩ := h; exact ⟨a, vs, e, t _ _ h1, h⟩
  case ins c ds => obtain ⟨a, C, dx, ns, vs, e, e2, h1, hl, h⟩ := h; exact ⟨a, C, dx, ns, vs, e, e2, t _ _ h1, hl, h⟩
  all_goals exact h
/-- an object that stands for d, at its address -/
theorem ObjRep.b {d : D} {o : HO} {a : Addr} (h : ObjRep K ce F a d o) (e : H a = some o) : BRep K ce F H d (.ref a) := by
  cases d with
  | tup ds => obtain ⟨vs, rfl, h⟩ := h; exact ⟨a, vs, rfl, e, h⟩
  | lst ds => obtain ⟨vs, rfl, h⟩ := h; exact ⟨a, vs, rfl, e, h⟩
  | dI ds => obtain ⟨vs, rfl, h⟩ := h; exact ⟨a, vs, rfl, e, h⟩
  | dS ds => obtain ⟨vs, rfl, h⟩ := h; exact ⟨a, vs, rfl, e, h⟩
  | dT ds => obtain ⟨vs, rfl, h⟩ := h; exact ⟨a, vs, rfl, e, h⟩
  | dN ds => obtain ⟨vs, rfl, h⟩ := h; exact ⟨a, vs, rfl, e, h⟩
  | ins c ds => obtain ⟨C, dx, ns, vs, e2, rfl, hl, h⟩ := h; exact ⟨a, C, dx, ns, vs, rfl, e2, e, hl, h⟩
  | _ => exact h.elim
theorem ObjRep.r {d : D} {o : HO} {a : Addr} (h : ObjRep K ce F a d o) (e : F a = some o) : Rep K ce F d (.ref a) := by
  cases d <;> unfold Rep
  case tup ds => obtain ⟨vs, rfl, h⟩ := h; exact ⟨a, vs, rfl, e, h⟩
  case lst ds => obtain ⟨vs, rfl, h⟩ := h; exact ⟨a, vs, rfl, e, h⟩
  case dI ds => obtain ⟨vs, rfl, h⟩ := h; exact ⟨a, vs, rfl, e, h⟩
  case dS ds => obtain ⟨vs, rfl, h⟩ := h; exact ⟨a, vs, rfl, e, h⟩
  case dT ds => obtain ⟨vs, rfl, h⟩ := h; exact ⟨a, vs, rfl, e, h⟩
  case dN ds => obtain ⟨vs, rfl, h⟩ := h; exact ⟨a, vs, rfl, e, h⟩
  case ins c ds => obtain ⟨C, dx, ns, vs, e2, rfl, hl, h⟩ := h; exact ⟨a, C, dx, ns, vs, rfl, e2, e, hl, h⟩
  all_goals exact h.elim

/-! ### lists of data -/
theorem Reps.length : ∀ {ds : List D} {vs : List V}, Reps K ce F ds vs → vs.length = ds.length
  | [], vs, h => by unfold Reps at h; rw [h]; rfl
  | d :: ds, vs, h => by
    unfold Reps at h
    obtain ⟨v, r, rfl, _, h2⟩ := h
    rw [List.length_cons, List.length_cons, h2.length]
theorem Reps.get : ∀ {ds : List D} {vs : List V} {i : Nat} {d : D}, Reps K ce F ds vs → ds[i]? = some d → ∃ v, vs[i]? = some v ∧ Rep K ce F d v
  | [], vs, i, d, h, e => by simp at e
  | d' :: ds, vs, 0, d, h, e => by
    unfold Reps at h
    obtain ⟨v, r, rfl, h1, h2⟩ := h
    simp at e
    subst e
    exact ⟨v, rfl, h1⟩
  | d' :: ds, vs, i + 1, d, h, e => by
    unfold Reps at h
    obtain ⟨v, r, rfl, h1, h2⟩ := h
    obtain ⟨w, e2, h3⟩ := h2.get (i := i) (d := d) (by simpa using e)
    exact ⟨w, by simpa using e2, h3⟩
theorem Reps.nil : Reps K ce F [] [] := by unfold Reps; rfl
theorem Reps.cons {d : D} {ds : List D} {v : V} {vs : List V} (h : Rep K ce F d v) (t : Reps K ce F ds vs) : Reps K ce F (d :: ds) (v :: vs) := by
  unfold Reps; exact ⟨v, vs, rfl, h, t⟩
theorem Reps.app : ∀ {ds es : List D} {vs ws : List V}, Reps K ce F ds vs → Reps K ce F es ws → Reps K ce F (ds ++ es) (vs ++ ws)
  | [], es, vs, ws, h, t => by unfold Reps at h; subst h; exact t
  | d :: ds, es, vs, ws, h, t => by
    unfold Reps at h
    obtain ⟨v, r, rfl, h1, h2⟩ := h
    exact .cons h1 (h2.app t)
theorem Reps.set : ∀ {ds : List D} {vs : List V} {d : D} {v : V} (i : Nat), Reps K ce F ds vs → Rep K ce F d v → Reps K ce F (ds.set i d) (vs.set i v)
  | [], vs, d, v, i, h, t => by unfold Reps at h; subst h; exact .nil
  | d' :: ds, vs, d, v, 0, h, t => by
    unfold Reps at h
    obtain ⟨v, r, rfl, h1, h2⟩ := h
    exact .cons t h2
  | d' :: ds, vs, d, v, i + 1, h, t => by
    unfold Reps at h
    obtain ⟨v, r, rfl, h1, h2⟩ := h
    exact .cons h1 (h2.set i t)
theorem Reps.take : ∀ {ds : List D} {vs : List V} (i : Nat), Reps K ce F ds vs → Reps K ce F (ds.take i) (vs.take i)
  | ds, vs, 0, h => by rw [List.take_zero, List.take_zero]; exact .nil
  | [], vs, i + 1, h => by unfold Reps at h; subst h; exact .nil
  | d' :: ds, vs, i + 1, h => by
    unfold Reps at h
    obtain ⟨v, r, rfl, h1, h2⟩ := h
    exact .cons h1 (h2.take i)
theorem Reps.drop : ∀ {ds : List D} {vs : List V} (i : Nat), Reps K ce F ds vs → Reps K ce F (ds.drop i) (vs.drop i)
  | ds, vs, 0, h => h
  | [], vs, i + 1, h => by unfold Reps at h; subst h; exact .nil
  | d' :: ds, vs, i + 1, h => by
    unfold Reps at h
    obtain ⟨v, r, rfl, h1, h2⟩ := h
    exact h2.drop i
theorem Reps.rev {ds : List D} {vs : List V} (h : Reps K ce F ds vs) : Reps K ce F ds.reverse vs.reverse := by
  induction ds generalizing vs with
  | nil => unfold Reps at h; subst h; exact .nil
  | cons d ds ih =>
    unfold Reps at h
    obtain ⟨v, r, rfl, h1, h2⟩ := h
    rw [List.reverse_cons, List.reverse_cons]
    exact (ih h2).app (.cons h1 .nil)
theorem Reps.repl {ds : List D} {vs : List V} (h : Reps K ce F ds vs) : ∀ k : Nat, Reps K ce F (List.replicate k ds).flatten (List.replicate k vs).flatten
  | 0 => .nil
  | k + 1 => by
    rw [List.replicate_succ, List.replicate_succ, List.flatten_cons, List.flatten_cons]
    exact h.app (h.repl k)
theorem Reps.ints {ns : List Int} : Reps K ce F (ns.map D.int) (ns.map V.int) := by
  induction ns with
  | nil => exact .nil
  | cons n ns ih => exact .cons (by unfold Rep; rfl) ih
theorem BReps.length : ∀ {ds : List D} {vs : List V}, BReps K ce F H ds vs → vs.length = ds.length
  | [], vs, h => by rw [show vs = [] from h]; rfl
  | d :: ds, vs, h => by
    obtain ⟨v, r, rfl, _, h2⟩ := h
    rw [List.length_cons, List.length_cons, h2.length]
end

/-! ### how heaps grow: F frozen, H all -/
structure Ext (F H F' H' : Hp) : Prop where
  sF : Same F F'
  sH : Same H H'
  sub : Same F' H'
  new : ∀ a, F a = none → F' a ≠ none → H a = none
theorem Ext.refl {F H : Hp} (s : Same F H) : Ext F H F H := ⟨.refl _, .refl _, s, fun a h h' => (h' h).elim⟩
theorem Ext.trans {F H F1 H1 F2 H2 : Hp} (a : Ext F H F1 H1) (b : Ext F1 H1 F2 H2) : Ext F H F2 H2 :=
  ⟨a.sF.trans b.sF, a.sH.trans b.sH, b.sub, fun c h h' => by
    cases q : F1 c with
    | none => exact a.sH.free (b.new c q h')
    | some o => exact a.new c h (by rw [q]; exact fun z => nomatch z)⟩
theorem sameUpd {H : Hp} {p : Addr} {o : HO} (h : H p = none) : Same H (upd H p o) := fun b x e => by
  rw [upd_ne (ne_of_none e h)]
  exact e
/-- a new object, not frozen -/
theorem Ext.laid {F H : Hp} {p : Addr} {o : HO} (s : Same F H) (h : H p = none) : Ext F H F (upd H p o) :=
  ⟨.refl _, sameUpd h, s.trans (sameUpd h), fun a h h' => (h' h).elim⟩
/-- an object is frozen -/
theorem Ext.freeze {F H : Hp} {p : Addr} {o : HO} (s : Same F H) (hF : F p = none) (h : H p = some o) : Same F (upd F p o) ∧ Same (upd F p o) H := by
  refine ⟨sameUpd hF, fun b x e => ?_⟩
  by_cases hb : b = p
  · subst hb; rw [upd_same] at e; cases e; exact h
  · rw [upd_ne hb] at e; exact s _ _ e
/-- a new object, frozen at once -/
theorem Ext.made {F H : Hp} {p : Addr} {o : HO} (s : Same F H) (h : H p = none) : Ext F H (upd F p o) (upd H p o) := by
  have hF : F p = none := s.free h
  obtain ⟨s1, s2⟩ := Ext.freeze (F := F) (H := upd H p o) (p := p) (o := o) (s.trans (sameUpd h)) hF upd_same
  refine ⟨s1, sameUpd h, s2, fun a ha h' => ?_⟩
  by_cases hb : a = p
  · subst hb; exact h
  · rw [upd_ne hb] at h'; exact (h' ha).elim

/-! ### the slots -/
inductive Cel where
  | no
  | val (d : D)
  | own (d : D)
  | bor (d : D)
abbrev Slots := List Cel

def CelOk (K : PySem.W.Frag) (ce : CE) (F H : Hp) : Cel → Option (Option V) → Prop
  | .no, _ => True
  | .val d, s => ∃ v, s = some (some v) ∧ Rep K ce F d v
  | .own d, s => ∃ a o, s = some (some (.ref a)) ∧ F a = none ∧ H a = some o ∧ ObjRep K ce F a d o
  | .bor d, s => ∃ v, s = some (some v) ∧ BRep K ce F H d v
structure Ev (K : PySem.W.Frag) (ce : CE) (Γ : Slots) (σ : L2.St) (F H : Hp) : Prop where
  sub : Same F H
  cells : ∀ (i : Nat) (c : Cel), Γ[i]? = some c → CelOk K ce F H c σ[i]?
  len : Γ.length = σ.length
theorem CelOk.ext {K : PySem.W.Frag} {ce : CE} {F H F' H' : Hp} (x : Ext F H F' H') {c : Cel} {s : Option (Option V)} (h : CelOk K ce F H c s) : CelOk K ce F' H' c s := by
  cases c with
  | no => trivial
  | val d => obtain ⟨v, e, h⟩ := h; exact ⟨v, e, Rep.mono x.sF d v h⟩
  | own d =>
    obtain ⟨a, o, e, hF, hH, h⟩ := h
    refine ⟨a, o, e, ?_, x.sH _ _ hH, ObjRep.mono x.sF d o h⟩
    cases q : F' a with
    | none => rfl
    | some u =>
      have := x.new a hF (by rw [q]; exact fun z => nomatch z)
      rw [hH] at this; cases this
  | bor d => obtain ⟨v, e, h⟩ := h; exact ⟨v, e, BRep.mono x.sF x.sH d v h⟩
theorem Ev.ext {K : PySem.W.Frag} {ce : CE} {Γ : Slots} {σ : L2.St} {F H F' H' : Hp} (v : Ev K ce Γ σ F H) (x : Ext F H F' H') : Ev K ce Γ σ F' H' :=
  ⟨x.sub, fun i c e => (v.cells i c e).ext x, v.len⟩

/-- what is wanted where an exception leaves; it stays as the heap grows -/
structure Wish where
  W : Hp → Exn → Prop
  mono : ∀ {H H' : Hp} {e : Exn}, Same H H' → W H e → W H' e
def Wish.none : Wish := ⟨fun _ _ => False, fun _ h => h⟩
end FL

/-! FL2: what an expression's reading computes on plain data. -/
namespace FL
open PySem PySem.Spec PyProof.Rows L2

abbrev EFn := Slots → Res D
section
variable (K : PySem.W.Frag) (ce : CE) (W : Wish)
def DenV (t : TE) (f : EFn) : Prop := ∀ (Γ : Slots) (σ : L2.St) (F H : Hp) (Q : VK), Ev K ce Γ σ F H → (f Γ).wp (W.W H) (fun d => ∀ v F' H', Ext F H F' H' → Rep K ce F' d v → Q v H') → t σ H Q
def DenB (t : TE) (f : EFn) : Prop := ∀ (Γ : Slots) (σ : L2.St) (F H : Hp) (Q : VK), Ev K ce Γ σ F H → (f Γ).wp (W.W H) (fun d => ∀ v F' H', Ext F H F' H' → BRep K ce F' H' d v → Q v H') → t σ H Q
/-- a new object, not yet frozen -/
def DenF (t : TE) (f : EFn) : Prop := ∀ (Γ : Slots) (σ : L2.St) (F H : Hp) (Q : VK), Ev K ce Γ σ F H → (f Γ).wp (W.W H) (fun d => ∀ a o F' H', Ext F H F' H' → F' a = none → H a = none → H' a = some o → ObjRep K ce F' a d o → Q (.ref a) H') → t σ H Q
def DenT (t : TT) (f : Slots → Res Bool) : Prop := ∀ (Γ : Slots) (σ : L2.St) (F H : Hp) (Q : Bool → Hp → Prop), Ev K ce Γ σ F H → (f Γ).wp (W.W H) (fun b => ∀ F' H', Ext F H F' H' → Q b H') → t σ H Q
def DenA (t : TA) (f : Slots → Res (List D)) : Prop := ∀ (Γ : Slots) (σ : L2.St) (F H : Hp) (Q : List V → Hp → Prop), Ev K ce Γ σ F H → (f Γ).wp (W.W H) (fun ds => ∀ vs F' H', Ext F H F' H' → BReps K ce F' H' ds vs → Q vs H') → t σ H Q
/-- arguments that are frozen -/
def DenAV (t : TA) (f : Slots → Res (List D)) : Prop := ∀ (Γ : Slots) (σ : L2.St) (F H : Hp) (Q : List V → Hp → Prop), Ev K ce Γ σ F H → (f Γ).wp (W.W H) (fun ds => ∀ vs F' H', Ext F H F' H' → Reps K ce F' ds vs → Q vs H') → t σ H Q

/-- operations on values -/
def OpDen (r : R2) (o : D → D → Res D) : Prop := ∀ (E : Exn → Prop) (F H : Hp) (x y : V) (a b : D) (Q : VK), Same F H → BRep K ce F H a x → BRep K ce F H b y →
  (o a b).wp E (fun d => ∀ v F' H', Ext F H F' H' → Rep K ce F' d v → Q v H') → r x y H Q
def OpDenF (r : R2) (o : D → D → Res D) : Prop := ∀ (E : Exn → Prop) (F H : Hp) (x y : V) (a b : D) (Q : VK), Same F H → BRep K ce F H a x → BRep K ce F H b y →
  (o a b).wp E (fun d => ∀ p u F' H', Ext F H F' H' → F' p = none → H p = none → H' p = some u → ObjRep K ce F' p d u → Q (.ref p) H') → r x y H Q
/-- .. of frozen values -/
def OpVDen (r : R2) (o : D → D → Res D) : Prop := ∀ (E : Exn → Prop) (F H : Hp) (x y : V) (a b : D) (Q : VK), Same F H → Rep K ce F a x → Rep K ce F b y →
  (o a b).wp E (fun d => ∀ v F' H', Ext F H F' H' → Rep K ce F' d v → Q v H') → r x y H Q
def CallVDen (r : List V → Hp → VK → Prop) (o : List D → Res D) : Prop := ∀ (E : Exn → Prop) (F H : Hp) (xs : List V) (ds : List D) (Q : VK), Same F H → Reps K ce F ds xs →
  (o ds).wp E (fun d => ∀ v F' H', Ext F H F' H' → Rep K ce F' d v → Q v H') → r xs H Q
def CallDen (r : List V → Hp → VK → Prop) (o : List D → Res D) : Prop := ∀ (E : Exn → Prop) (F H : Hp) (xs : List V) (ds : List D) (Q : VK), Same F H → BReps K ce F H ds xs →
  (o ds).wp E (fun d => ∀ v F' H', Ext F H F' H' → Rep K ce F' d v → Q v H') → r xs H Q
def CallDenF (r : List V → Hp → VK → Prop) (o : List D → Res D) : Prop := ∀ (E : Exn → Prop) (F H : Hp) (xs : List V) (ds : List D) (Q : VK), Same F H → BReps K ce F H ds xs →
  (o ds).wp E (fun d => ∀ p u F' H', Ext F H F' H' → F' p = none → H p = none → H' p = some u → ObjRep K ce F' p d u → Q (.ref p) H') → r xs H Q
end

/-! ### the functions -/
def eV (i : Nat) : EFn := fun Γ => match Γ[i]? with
  | some (.val d) => .ok d
  | _ => .stuck
def eB (i : Nat) : EFn := fun Γ => match Γ[i]? with
  | some (.val d) => .ok d
  | some (.own d) => .ok d
  | some (.bor d) => .ok d
  | _ => .stuck
def eC (d : D) : EFn := fun _ => .ok d
def e1 (o : D → Res D) (f : EFn) : EFn := fun Γ => (f Γ).bind o
def e2 (o : D → D → Res D) (f g : EFn) : EFn := fun Γ => (f Γ).bind fun a => (g Γ).bind fun b => o a b
def aNil : Slots → Res (List D) := fun _ => .ok []
def aCons (f : EFn) (fs : Slots → Res (List D)) : Slots → Res (List D) := fun Γ => (f Γ).bind fun d => (fs Γ).bind fun ds => .ok (d :: ds)
def eN (o : List D → Res D) (fs : Slots → Res (List D)) : EFn := fun Γ => (fs Γ).bind o
def asB : D → Res Bool
  | .bl b => .ok b
  | _ => .stuck
def nT (f : EFn) : Slots → Res Bool := fun Γ => (f Γ).bind asB
def nAnd (f g : Slots → Res Bool) : Slots → Res Bool := fun Γ => (f Γ).bind fun b => if b = true then g Γ else .ok false
def nOr (f g : Slots → Res Bool) : Slots → Res Bool := fun Γ => (f Γ).bind fun b => if b = true then .ok true else g Γ
def nNot (f : Slots → Res Bool) : Slots → Res Bool := fun Γ => (f Γ).bind fun b => .ok (!b)
def eAnd (f g : EFn) : EFn := fun Γ => ((f Γ).bind asB).bind fun b => if b = true then g Γ else .ok (.bl false)
def eOr (f g : EFn) : EFn := fun Γ => ((f Γ).bind asB).bind fun b => if b = true then .ok (.bl true) else g Γ
def eNot (f : EFn) : EFn := fun Γ => ((f Γ).bind asB).bind fun b => .ok (.bl (!b))
def eIf (c : Slots → Res Bool) (f g : EFn) : EFn := fun Γ => (c Γ).bind fun b => if b = true then f Γ else g Γ
/-- a list just made, of data -/
def mkTup (ds : List D) : Res D := if ds.length ≤ sizeLine then .ok (.tup ds) else .stuck
def mkLst (ds : List D) : Res D := if ds.length ≤ sizeLine then .ok (.lst ds) else .stuck

section
variable {K : PySem.W.Frag} {ce : CE} {W : Wish} {t ta tb tc : TE} {f g h : EFn} {tA : TA} {fs : Slots → Res (List D)}
theorem DenV.b (x : DenV K ce W t f) : DenB K ce W t f := fun Γ σ F H Q ev h => x Γ σ F H Q ev (Res.wp_mono h (fun _ z => z) fun d _ k v F' H' e r => k v F' H' e (r.b e.sub))
theorem DenF.b (x : DenF K ce W t f) : DenB K ce W t f := fun Γ σ F H Q ev h => x Γ σ F H Q ev (Res.wp_mono h (fun _ z => z) fun d _ k a o F' H' e _ _ h1 r => k (.ref a) F' H' e (r.b h1))
theorem DenF.v (x : DenF K ce W t f) : DenV K ce W t f := fun Γ σ F H Q ev h => x Γ σ F H Q ev (Res.wp_mono h (fun _ z => z) fun d _ k a o F' H' e hF hH h1 r => by
  obtain ⟨s1, s2⟩ := Ext.freeze e.sub hF h1
  refine k (.ref a) (upd F' a o) H' ⟨e.sF.trans s1, e.sH, s2, fun b hb hb' => ?_⟩ ((r.mono s1).r upd_same)
  by_cases q : b = a
  · subst q; exact hH
  · rw [upd_ne q] at hb'; exact e.new b hb hb')
theorem OpDenF.v {r : R2} {o : D → D → Res D} (x : OpDenF K ce r o) : OpDen K ce r o := fun E F H u v a b Q s ha hb h => x E F H u v a b Q s ha hb (Res.wp_mono h (fun _ z => z) fun d _ k p w F' H' e hF hH h1 q => by
  obtain ⟨s1, s2⟩ := Ext.freeze e.sub hF h1
  refine k (.ref p) (upd F' p w) H' ⟨e.sF.trans s1, e.sH, s2, fun c hc hc' => ?_⟩ ((q.mono s1).r upd_same)
  by_cases z : c = p
  · subst z; exact hH
  · rw [upd_ne z] at hc'; exact e.new c hc hc')
theorem CallDenF.v {r : List V → Hp → VK → Prop} {o : List D → Res D} (x : CallDenF K ce r o) : CallDen K ce r o := fun E F H xs ds Q s ha h => x E F H xs ds Q s ha (Res.wp_mono h (fun _ z => z) fun d _ k p w F' H' e hF hH h1 q => by
  obtain ⟨s1, s2⟩ := Ext.freeze e.sub hF h1
  refine k (.ref p) (upd F' p w) H' ⟨e.sF.trans s1, e.sH, s2, fun c hc hc' => ?_⟩ ((q.mono s1).r upd_same)
  by_cases z : c = p
  · subst z; exact hH
  · rw [upd_ne z] at hc'; exact e.new c hc hc')

/-! ### names, constants -/
theorem den_var (i : Nat) : DenV K ce W (tVar i) (eV i) := fun Γ σ F H Q ev h => by
  unfold eV at h
  split at h
  · rename_i d e
    obtain ⟨v, e2, r⟩ := ev.cells i _ e
    exact ⟨v, e2, h v F H (.refl ev.sub) r⟩
  · exact h.elim
theorem den_varB (i : Nat) : DenB K ce W (tVar i) (eB i) := fun Γ σ F H Q ev h => by
  unfold eB at h
  split at h
  · rename_i d e
    obtain ⟨v, e2, r⟩ := ev.cells i _ e
    exact ⟨v, e2, h v F H (.refl ev.sub) (r.b ev.sub)⟩
  · rename_i d e
    obtain ⟨a, o, e2, hF, hH, r⟩ := ev.cells i _ e
    exact ⟨_, e2, h _ F H (.refl ev.sub) (r.b hH)⟩
  · rename_i d e
    obtain ⟨v, e2, r⟩ := ev.cells i _ e
    exact ⟨v, e2, h v F H (.refl ev.sub) r⟩
  · exact h.elim
theorem den_int (i : Int) : DenV K ce W (tC (.int i)) (eC (.int i)) := fun Γ σ F H Q ev h => h _ F H (.refl ev.sub) (by unfold Rep; rfl)
theorem den_bl (b : Bool) : DenV K ce W (tC (.bl b)) (eC (.bl b)) := fun Γ σ F H Q ev h => h _ F H (.refl ev.sub) (by unfold Rep; rfl)
theorem den_non : DenV K ce W (tC .non) (eC .non) := fun Γ σ F H Q ev h => h _ F H (.refl ev.sub) (by unfold Rep; rfl)
theorem den_str (x : Str) : DenV K ce W (tC (.str x)) (eC (.str x)) := fun Γ σ F H Q ev h => h _ F H (.refl ev.sub) (by unfold Rep; rfl)

/-! ### operators -/
theorem den_op {r : R2} {o : D → D → Res D} (ho : OpDen K ce r o) (ha : DenB K ce W ta f) (hb : DenB K ce W tb g) : DenV K ce W (tOp r ta tb) (e2 o f g) := fun Γ σ F H Q ev h => by
  refine ha Γ σ F H _ ev (Res.wp_mono (Res.wp_bind h) (fun _ z => z) fun a _ h2 v F1 H1 x1 r1 => ?_)
  refine hb Γ σ F1 H1 _ (ev.ext x1) (Res.wp_mono (Res.wp_bind h2) (fun e z => W.mono x1.sH z) fun b _ h4 u F2 H2 x2 r2 => ?_)
  exact ho _ F2 H2 v u a b Q x2.sub (BRep.mono x2.sF x2.sH _ _ r1) r2 (Res.wp_mono h4 (fun _ z => z) fun d _ k v' F3 H3 x3 r3 => k v' F3 H3 (x1.trans (x2.trans x3)) r3)
theorem den_opV {r : R2} {o : D → D → Res D} (ho : OpVDen K ce r o) (ha : DenV K ce W ta f) (hb : DenV K ce W tb g) : DenV K ce W (tOp r ta tb) (e2 o f g) := fun Γ σ F H Q ev h => by
  refine ha Γ σ F H _ ev (Res.wp_mono (Res.wp_bind h) (fun _ z => z) fun a _ h2 v F1 H1 x1 r1 => ?_)
  refine hb Γ σ F1 H1 _ (ev.ext x1) (Res.wp_mono (Res.wp_bind h2) (fun e z => W.mono x1.sH z) fun b _ h4 u F2 H2 x2 r2 => ?_)
  exact ho _ F2 H2 v u a b Q x2.sub (Rep.mono x2.sF _ _ r1) r2 (Res.wp_mono h4 (fun _ z => z) fun d _ k v' F3 H3 x3 r3 => k v' F3 H3 (x1.trans (x2.trans x3)) r3)
theorem den_opF {r : R2} {o : D → D → Res D} (ho : OpDenF K ce r o) (ha : DenB K ce W ta f) (hb : DenB K ce W tb g) : DenF K ce W (tOp r ta tb) (e2 o f g) := fun Γ σ F H Q ev h => by
  refine ha Γ σ F H _ ev (Res.wp_mono (Res.wp_bind h) (fun _ z => z) fun a _ h2 v F1 H1 x1 r1 => ?_)
  refine hb Γ σ F1 H1 _ (ev.ext x1) (Res.wp_mono (Res.wp_bind h2) (fun e z => W.mono x1.sH z) fun b _ h4 u F2 H2 x2 r2 => ?_)
  exact ho _ F2 H2 v u a b Q x2.sub (BRep.mono x2.sF x2.sH _ _ r1) r2 (Res.wp_mono h4 (fun _ z => z) fun d _ k p w F3 H3 x3 hF hH h1 r3 =>
    k p w F3 H3 (x1.trans (x2.trans x3)) hF (x1.sH.free (x2.sH.free hH)) h1 r3)
theorem den_un {r : V → Hp → VK → Prop} {o : D → Res D} (ho : ∀ (E : Exn → Prop) (F H : Hp) (x : V) (a : D) (Q : VK), Same F H → BRep K ce F H a x → (o a).wp E (fun d => ∀ v F' H', Ext F H F' H' → Rep K ce F' d v → Q v H') → r x H Q)
    (ha : DenB K ce W ta f) : DenV K ce W (tUn r ta) (e1 o f) := fun Γ σ F H Q ev h => by
  refine ha Γ σ F H _ ev (Res.wp_mono (Res.wp_bind h) (fun _ z => z) fun a _ h2 v F1 H1 x1 r1 => ?_)
  exact ho _ F1 H1 v a Q x1.sub r1 (Res.wp_mono h2 (fun _ z => z) fun d _ k v' F3 H3 x3 r3 => k v' F3 H3 (x1.trans x3) r3)

/-! ### tests -/
theorem den_tB (x : DenB K ce W t f) : DenT K ce W (tB t) (nT f) := fun Γ σ F H Q ev h => x Γ σ F H _ ev (Res.wp_mono (Res.wp_bind h) (fun _ z => z) fun d _ k v F' H' e r => by
  unfold asB at k
  split at k
  · exact ⟨_, r, k F' H' e⟩
  · exact k.elim)
theorem den_tTest (x : DenB K ce W t f) : DenT K ce W (tTest t) (nT f) := den_tB x
theorem den_and {u v : TT} {p q : Slots → Res Bool} (x : DenT K ce W u p) (y : DenT K ce W v q) : DenT K ce W (tAnd u v) (nAnd p q) := fun Γ σ F H Q ev h => x Γ σ F H _ ev (Res.wp_mono (Res.wp_bind h) (fun _ z => z) fun b _ k F' H' e => by
  cases b with
  | true =>
    rw [if_pos rfl] at k ⊢
    exact y Γ σ F' H' Q (ev.ext e) (Res.wp_mono k (fun _ z => W.mono e.sH z) fun c _ k2 F2 H2 e2 => k2 F2 H2 (e.trans e2))
  | false =>
    rw [if_neg Bool.false_ne_true] at k ⊢
    exact k F' H' e)
theorem den_or {u v : TT} {p q : Slots → Res Bool} (x : DenT K ce W u p) (y : DenT K ce W v q) : DenT K ce W (tOr u v) (nOr p q) := fun Γ σ F H Q ev h => x Γ σ F H _ ev (Res.wp_mono (Res.wp_bind h) (fun _ z => z) fun b _ k F' H' e => by
  cases b with
  | false =>
    rw [if_neg Bool.false_ne_true] at k ⊢
    exact y Γ σ F' H' Q (ev.ext e) (Res.wp_mono k (fun _ z => W.mono e.sH z) fun c _ k2 F2 H2 e2 => k2 F2 H2 (e.trans e2))
  | true =>
    rw [if_pos rfl] at k ⊢
    exact k F' H' e)
theorem den_not {u : TT} {p : Slots → Res Bool} (x : DenT K ce W u p) : DenT K ce W (tNot u) (nNot p) := fun Γ σ F H Q ev h => x Γ σ F H _ ev (Res.wp_mono (Res.wp_bind h) (fun _ z => z) fun b _ k F' H' e => k F' H' e)
theorem den_ifE {c : TT} {p : Slots → Res Bool} (x : DenT K ce W c p) (y : DenV K ce W ta f) (z : DenV K ce W tb g) : DenV K ce W (tIf c ta tb) (eIf p f g) := fun Γ σ F H Q ev h => x Γ σ F H _ ev (Res.wp_mono (Res.wp_bind h) (fun _ z => z) fun b _ k F' H' e => by
  cases b with
  | true =>
    rw [if_pos rfl] at k ⊢
    exact y Γ σ F' H' Q (ev.ext e) (Res.wp_mono k (fun _ z => W.mono e.sH z) fun c _ k2 v F2 H2 e2 => k2 v F2 H2 (e.trans e2))
  | false =>
    rw [if_neg Bool.false_ne_true] at k ⊢
    exact z Γ σ F' H' Q (ev.ext e) (Res.wp_mono k (fun _ z => W.mono e.sH z) fun c _ k2 v F2 H2 e2 => k2 v F2 H2 (e.trans e2)))
theorem den_andV (x : DenB K ce W ta f) (y : DenV K ce W tb g) : DenV K ce W (tAndV ta tb) (eAnd f g) := fun Γ σ F H Q ev h => by
  refine x Γ σ F H _ ev (Res.wp_mono (Res.wp_bind (Res.wp_bind h)) (fun _ z => z) fun d _ k v F' H' e r => ?_)
  unfold asB at k
  split at k
  · rename_i b _
    refine ⟨b, r, ?_⟩
    cases b with
    | true =>
      simp only [Res.wp, if_true] at k ⊢
      exact y Γ σ F' H' Q (ev.ext e) (Res.wp_mono k (fun _ z => W.mono e.sH z) fun c _ k2 v F2 H2 e2 => k2 v F2 H2 (e.trans e2))
    | false => exact k _ F' H' e (by unfold Rep; rfl)
  · exact k.elim
theorem den_orV (x : DenB K ce W ta f) (y : DenV K ce W tb g) : DenV K ce W (tOrV ta tb) (eOr f g) := fun Γ σ F H Q ev h => by
  refine x Γ σ F H _ ev (Res.wp_mono (Res.wp_bind (Res.wp_bind h)) (fun _ z => z) fun d _ k v F' H' e r => ?_)
  unfold asB at k
  split at k
  · rename_i b _
    refine ⟨b, r, ?_⟩
    cases b with
    | false =>
      exact y Γ σ F' H' Q (ev.ext e) (Res.wp_mono k (fun _ z => W.mono e.sH z) fun c _ k2 v F2 H2 e2 => k2 v F2 H2 (e.trans e2))
    | true => exact k _ F' H' e (by unfold Rep; rfl)
  · exact k.elim
theorem den_notV (x : DenB K ce W ta f) : DenV K ce W (tNotV ta) (eNot f) := fun Γ σ F H Q ev h => by
  refine x Γ σ F H _ ev (Res.wp_mono (Res.wp_bind (Res.wp_bind h)) (fun _ z => z) fun d _ k v F' H' e r => ?_)
  unfold asB at k
  split at k
  · rename_i b _
    exact ⟨b, r, k _ F' H' e (by unfold Rep; rfl)⟩
  · exact k.elim

/-! ### arguments, displays -/
theorem den_anil : DenA K ce W tNil aNil := fun Γ σ F H Q ev h => h [] F H (.refl ev.sub) rfl
theorem den_acons (x : DenB K ce W ta f) (y : DenA K ce W tA fs) : DenA K ce W (tCons ta tA) (aCons f fs) := fun Γ σ F H Q ev h => by
  refine x Γ σ F H _ ev (Res.wp_mono (Res.wp_bind h) (fun _ z => z) fun d _ k v F' H' e r => ?_)
  refine y Γ σ F' H' _ (ev.ext e) (Res.wp_mono (Res.wp_bind k) (fun _ z => W.mono e.sH z) fun ds _ k2 vs F2 H2 e2 r2 => ?_)
  exact k2 (v :: vs) F2 H2 (e.trans e2) ⟨v, vs, rfl, BRep.mono e2.sF e2.sH _ _ r, r2⟩
theorem den_avnil : DenAV K ce W tNil aNil := fun Γ σ F H Q ev h => h [] F H (.refl ev.sub) .nil
theorem den_avcons (x : DenV K ce W ta f) (y : DenAV K ce W tA fs) : DenAV K ce W (tCons ta tA) (aCons f fs) := fun Γ σ F H Q ev h => by
  refine x Γ σ F H _ ev (Res.wp_mono (Res.wp_bind h) (fun _ z => z) fun d _ k v F' H' e r => ?_)
  refine y Γ σ F' H' _ (ev.ext e) (Res.wp_mono (Res.wp_bind k) (fun _ z => W.mono e.sH z) fun ds _ k2 vs F2 H2 e2 r2 => ?_)
  exact k2 (v :: vs) F2 H2 (e.trans e2) (.cons (Rep.mono e2.sF _ _ r) r2)
theorem den_tup (x : DenAV K ce W tA fs) : DenF K ce W (tTup tA) (eN mkTup fs) := fun Γ σ F H Q ev h => by
  refine x Γ σ F H _ ev (Res.wp_mono (Res.wp_bind h) (fun _ z => z) fun ds _ k vs F' H' e r => ?_)
  unfold mkTup at k
  split at k
  · rename_i hz
    refine ⟨by rw [r.length]; exact hz, fun p hp => ?_⟩
    exact k p _ F' _ (e.trans (.laid e.sub hp)) (e.sub.free hp) (e.sH.free hp) upd_same ⟨vs, rfl, r⟩
  · exact k.elim
theorem den_lst (x : DenAV K ce W tA fs) : DenF K ce W (tLst tA) (eN mkLst fs) := fun Γ σ F H Q ev h => by
  refine x Γ σ F H _ ev (Res.wp_mono (Res.wp_bind h) (fun _ z => z) fun ds _ k vs F' H' e r => ?_)
  unfold mkLst at k
  split at k
  · rename_i hz
    refine ⟨by rw [r.length]; exact hz, fun p hp => ?_⟩
    exact k p _ F' _ (e.trans (.laid e.sub hp)) (e.sub.free hp) (e.sH.free hp) upd_same ⟨vs, rfl, r⟩
  · exact k.elim
theorem den_cb {r : List V → Hp → VK → Prop} {o : List D → Res D} (ho : CallDen K ce r o) (x : DenA K ce W tA fs) : DenV K ce W (tCB r tA) (eN o fs) := fun Γ σ F H Q ev h => by
  refine x Γ σ F H _ ev (Res.wp_mono (Res.wp_bind h) (fun _ z => z) fun ds _ k vs F' H' e r => ?_)
  exact ho _ F' H' vs ds Q e.sub r (Res.wp_mono k (fun _ z => z) fun d _ k2 v F2 H2 e2 r2 => k2 v F2 H2 (e.trans e2) r2)
theorem den_cbV {r : List V → Hp → VK → Prop} {o : List D → Res D} (ho : CallVDen K ce r o) (x : DenAV K ce W tA fs) : DenV K ce W (tCB r tA) (eN o fs) := fun Γ σ F H Q ev h => by
  refine x Γ σ F H _ ev (Res.wp_mono (Res.wp_bind h) (fun _ z => z) fun ds _ k vs F' H' e r => ?_)
  exact ho _ F' H' vs ds Q e.sub r (Res.wp_mono k (fun _ z => z) fun d _ k2 v F2 H2 e2 r2 => k2 v F2 H2 (e.trans e2) r2)
theorem den_cbF {r : List V → Hp → VK → Prop} {o : List D → Res D} (ho : CallDenF K ce r o) (x : DenA K ce W tA fs) : DenF K ce W (tCB r tA) (eN o fs) := fun Γ σ F H Q ev h => by
  refine x Γ σ F H _ ev (Res.wp_mono (Res.wp_bind h) (fun _ z => z) fun ds _ k vs F' H' e r => ?_)
  exact ho _ F' H' vs ds Q e.sub r (Res.wp_mono k (fun _ z => z) fun d _ k2 p u F2 H2 e2 hF hH h1 r2 => k2 p u F2 H2 (e.trans e2) hF (e.sH.free hH) h1 r2)
end

/-! ### the operators' functions -/
def addD : D → D → Res D
  | .int i, .int j => .ok (.int (i + j))
  | _, _ => .stuck
def subD : D → D → Res D
  | .int i, .int j => .ok (.int (i - j))
  | _, _ => .stuck
def mulD : D → D → Res D
  | .int i, .int j => if (-18446744073709551616 < i ∧ i < 18446744073709551616) ∨ (-18446744073709551616 < j ∧ j < 18446744073709551616) then .ok (.int (i * j)) else .stuck
  | _, _ => .stuck
def fdivD : D → D → Res D
  | .int i, .int j => if 0 < j ∧ j < 1073741824 then .ok (.int (i / j)) else .stuck
  | _, _ => .stuck
def modD : D → D → Res D
  | .int i, .int j => if 0 < j then .ok (.int (i % j)) else .stuck
  | _, _ => .stuck
def powD : D → D → Res D
  | .int i, .int j => if 0 ≤ j ∧ j ≤ 1000000 ∧ i.natAbs < 18446744073709551616 then .ok (.int (i ^ j.toNat)) else .stuck
  | _, _ => .stuck
def negD : D → Res D
  | .int i => .ok (.int (-i))
  | _ => .stuck
def ltD : D → D → Res D
  | .int i, .int j => .ok (.bl (decide (i < j)))
  | _, _ => .stuck
def leD : D → D → Res D
  | .int i, .int j => .ok (.bl (decide (i ≤ j)))
  | _, _ => .stuck
def gtD : D → D → Res D
  | .int i, .int j => .ok (.bl (decide (j < i)))
  | _, _ => .stuck
def geD : D → D → Res D
  | .int i, .int j => .ok (.bl (decide (j ≤ i)))
  | _, _ => .stuck
def eqI : D → D → Res D
  | .int i, .int j => .ok (.bl (decide (i = j)))
  | _, _ => .stuck
def neI : D → D → Res D
  | .int i, .int j => .ok (.bl (!decide (i = j)))
  | _, _ => .stuck
def eqS : D → D → Res D
  | .str i, .str j => .ok (.bl (decide (i = j)))
  | _, _ => .stuck
def eqB : D → D → Res D
  | .bl i, .bl j => .ok (.bl (decide (i = j)))
  | _, _ => .stuck
def neB : D → D → Res D
  | .bl i, .bl j => .ok (.bl (!decide (i = j)))
  | _, _ => .stuck
def isNone : D → Bool
  | .non => true
  | _ => false
def isN : D → D → Res D
  | a, .non => .ok (.bl (isNone a))
  | _, _ => .stuck
def notN : D → D → Res D
  | a, .non => .ok (.bl (!isNone a))
  | _, _ => .stuck
/-- t + u of tuples; xs + ys, xs * k of lists; t * k -/
def catT : D → D → Res D
  | .tup xs, .tup ys => if xs.length + ys.length ≤ sizeLine then .ok (.tup (xs ++ ys)) else .stuck
  | _, _ => .stuck
def catL : D → D → Res D
  | .lst xs, .lst ys => if xs.length + ys.length ≤ sizeLine then .ok (.lst (xs ++ ys)) else .stuck
  | _, _ => .stuck
def repL : D → D → Res D
  | .lst xs, .int k => if -9223372036854775808 ≤ k ∧ k < 9223372036854775808 ∧ xs.length * k.toNat ≤ sizeLine then .ok (.lst (List.replicate k.toNat xs).flatten) else .stuck
  | _, _ => .stuck
def repT : D → D → Res D
  | .tup xs, .int k => if xs ≠ [] ∧ 2 ≤ k ∧ k ≤ 1000 ∧ xs.length ≤ 1000 then .ok (.tup (List.replicate k.toNat xs).flatten) else .stuck
  | _, _ => .stuck
def catS : D → D → Res D
  | .str i, .str j => if i.length + j.length ≤ sizeLine then .ok (.str (i ++ j)) else .stuck
  | _, _ => .stuck
/-- xs[i], t[i], s[i] -/
def getD : D → D → Res D
  | .lst xs, .int i => match atI xs i with
    | some d => .ok d
    | none => .stuck
  | .tup xs, .int i => match atI xs i with
    | some d => .ok d
    | none => .stuck
  | .scr ns, .int i => match atI ns i with
    | some n => .ok (.int n)
    | none => .stuck
  | .str z, .int i => if z.length ≤ sizeLine then (match atI z.cps.toList i with
    | some c => .ok (.str ⟨#[c]⟩)
    | none => .stuck) else .stuck
  | _, _ => .stuck

section
variable {K : PySem.W.Frag} {ce : CE} {F H : Hp}
theorem brInt {i : Int} {v : V} (h : BRep K ce F H (.int i) v) : v = .int i := h
theorem rInt (i : Int) : Rep K ce F (.int i) (.int i) := by unfold Rep; rfl
theorem rBl (i : Bool) : Rep K ce F (.bl i) (.bl i) := by unfold Rep; rfl
theorem rStr (i : Str) : Rep K ce F (.str i) (.str i) := by unfold Rep; rfl
theorem rNon : Rep K ce F .non .non := by unfold Rep; rfl

theorem od_add : OpDen K ce (rI0 fun i j => .int (i + j)) addD := fun E F H x y a b Q s ha hb h => by
  unfold addD at h; split at h
  · exact ⟨_, _, ha, hb, h _ F H (.refl s) (rInt _)⟩
  · exact h.elim
theorem od_sub : OpDen K ce (rI0 fun i j => .int (i - j)) subD := fun E F H x y a b Q s ha hb h => by
  unfold subD at h; split at h
  · exact ⟨_, _, ha, hb, h _ F H (.refl s) (rInt _)⟩
  · exact h.elim
theorem od_mul : OpDen K ce (rI CMul fun i j => .int (i * j)) mulD := fun E F H x y a b Q s ha hb h => by
  unfold mulD at h; split at h
  · split at h
    · rename_i c; exact ⟨_, _, ha, hb, c, h _ F H (.refl s) (rInt _)⟩
    · exact h.elim
  · exact h.elim
theorem od_fdiv : OpDen K ce (rI CDiv fun i j => .int (i / j)) fdivD := fun E F H x y a b Q s ha hb h => by
  unfold fdivD at h; split at h
  · split at h
    · rename_i c; exact ⟨_, _, ha, hb, c, h _ F H (.refl s) (rInt _)⟩
    · exact h.elim
  · exact h.elim
theorem od_mod : OpDen K ce (rI (fun _ j => 0 < j) fun i j => .int (i % j)) modD := fun E F H x y a b Q s ha hb h => by
  unfold modD at h; split at h
  · split at h
    · rename_i c; exact ⟨_, _, ha, hb, c, h _ F H (.refl s) (rInt _)⟩
    · exact h.elim
  · exact h.elim
theorem od_pow : OpDen K ce (rI CPow fun i j => .int (i ^ j.toNat)) powD := fun E F H x y a b Q s ha hb h => by
  unfold powD at h; split at h
  · split at h
    · rename_i c; exact ⟨_, _, ha, hb, c, h _ F H (.refl s) (rInt _)⟩
    · exact h.elim
  · exact h.elim
theorem ud_neg (E : Exn → Prop) (F H : Hp) (x : V) (a : D) (Q : VK) (s : Same F H) (ha : BRep K ce F H a x) (h : (negD a).wp E (fun d => ∀ v F' H', Ext F H F' H' → Rep K ce F' d v → Q v H')) : (rU fun i => .int (-i)) x H Q := by
  unfold negD at h; split at h
  · exact ⟨_, ha, h _ F H (.refl s) (rInt _)⟩
  · exact h.elim
theorem od_lt : OpDen K ce (rI0 fun i j => .bl (decide (i < j))) ltD := fun E F H x y a b Q s ha hb h => by
  unfold ltD at h; split at h
  · exact ⟨_, _, ha, hb, h _ F H (.refl s) (rBl _)⟩
  · exact h.elim
theorem od_le : OpDen K ce (rI0 fun i j => .bl (decide (i ≤ j))) leD := fun E F H x y a b Q s ha hb h => by
  unfold leD at h; split at h
  · exact ⟨_, _, ha, hb, h _ F H (.refl s) (rBl _)⟩
  · exact h.elim
theorem od_gt : OpDen K ce (rI0 fun i j => .bl (decide (j < i))) gtD := fun E F H x y a b Q s ha hb h => by
  unfold gtD at h; split at h
  · exact ⟨_, _, ha, hb, h _ F H (.refl s) (rBl _)⟩
  · exact h.elim
theorem od_ge : OpDen K ce (rI0 fun i j => .bl (decide (j ≤ i))) geD := fun E F H x y a b Q s ha hb h => by
  unfold geD at h; split at h
  · exact ⟨_, _, ha, hb, h _ F H (.refl s) (rBl _)⟩
  · exact h.elim
theorem od_eqI : OpDen K ce rEq eqI := fun E F H x y a b Q s ha hb h => by
  unfold eqI at h; split at h
  · cases ha; cases hb
    refine ⟨rfl, ?_⟩
    have e : ∀ i j : Int, decide (V.int i = V.int j) = decide (i = j) := fun i j => by rw [dec_int, Bool.beq_eq_decide_eq]
    rw [e]
    exact h _ F H (.refl s) (rBl _)
  · exact h.elim
theorem od_neI : OpDen K ce rNe neI := fun E F H x y a b Q s ha hb h => by
  unfold neI at h; split at h
  · cases ha; cases hb
    refine ⟨rfl, ?_⟩
    have e : ∀ i j : Int, decide (V.int i = V.int j) = decide (i = j) := fun i j => by rw [dec_int, Bool.beq_eq_decide_eq]
    rw [e]
    exact h _ F H (.refl s) (rBl _)
  · exact h.elim
theorem od_eqS : OpDen K ce rEq eqS := fun E F H x y a b Q s ha hb h => by
  unfold eqS at h; split at h
  · cases ha; cases hb
    refine ⟨rfl, ?_⟩
    have e : ∀ i j : Str, decide (V.str i = V.str j) = decide (i = j) := fun i j => by rw [dec_str]; by_cases q : i = j <;> simp [q]
    rw [e]
    exact h _ F H (.refl s) (rBl _)
  · exact h.elim
theorem od_eqB : OpDen K ce rEq eqB := fun E F H x y a b Q s ha hb h => by
  unfold eqB at h; split at h
  · cases ha; cases hb
    refine ⟨rfl, ?_⟩
    have e : ∀ i j : Bool, decide (V.bl i = V.bl j) = decide (i = j) := fun i j => by rw [dec_bl, Bool.beq_eq_decide_eq]
    rw [e]
    exact h _ F H (.refl s) (rBl _)
  · exact h.elim
theorem od_neB : OpDen K ce rNe neB := fun E F H x y a b Q s ha hb h => by
  unfold neB at h; split at h
  · cases ha; cases hb
    refine ⟨rfl, ?_⟩
    have e : ∀ i j : Bool, decide (V.bl i = V.bl j) = decide (i = j) := fun i j => by rw [dec_bl, Bool.beq_eq_decide_eq]
    rw [e]
    exact h _ F H (.refl s) (rBl _)
  · exact h.elim
theorem isNone_v {a : D} {x : V} (h : BRep K ce F H a x) : decide (x = .non) = isNone a := by
  cases a
  case non => cases h; rfl
  case bl b => cases h; rfl
  case int b => cases h; rfl
  case str b => cases h; rfl
  case tup ds => obtain ⟨a, vs, rfl, _⟩ := h; rfl
  case lst ds => obtain ⟨a, vs, rfl, _⟩ := h; rfl
  case dI ds => obtain ⟨a, vs, rfl, _⟩ := h; rfl
  case dS ds => obtain ⟨a, vs, rfl, _⟩ := h; rfl
  case dT ds => obtain ⟨a, vs, rfl, _⟩ := h; rfl
  case dN ds => obtain ⟨a, vs, rfl, _⟩ := h; rfl
  case ins c ds => obtain ⟨a, C, dx, ns, vs, rfl, _⟩ := h; rfl
  case scr ns => obtain ⟨a, rfl, _⟩ := h; rfl
  case ty n => cases h; rfl
theorem od_isN : OpDen K ce (fun x y H Q => y = .non ∧ Q (.bl (decide (x = .non))) H) isN := fun E F H x y a b Q s ha hb h => by
  unfold isN at h; split at h
  · refine ⟨hb, ?_⟩
    rw [isNone_v ha]
    exact h _ F H (.refl s) (rBl _)
  · exact h.elim
theorem od_notN : OpDen K ce (fun x y H Q => y = .non ∧ Q (.bl (!decide (x = .non))) H) notN := fun E F H x y a b Q s ha hb h => by
  unfold notN at h; split at h
  · refine ⟨hb, ?_⟩
    rw [isNone_v ha]
    exact h _ F H (.refl s) (rBl _)
  · exact h.elim
theorem od_isBl : OpDen K ce (fun x y H Q => ∃ a b, x = .bl a ∧ y = .bl b ∧ Q (.bl (decide (a = b))) H) eqB := fun E F H x y a b Q s ha hb h => by
  unfold eqB at h; split at h
  · exact ⟨_, _, ha, hb, h _ F H (.refl s) (rBl _)⟩
  · exact h.elim
theorem od_isnotBl : OpDen K ce (fun x y H Q => ∃ a b, x = .bl a ∧ y = .bl b ∧ Q (.bl (!decide (a = b))) H) neB := fun E F H x y a b Q s ha hb h => by
  unfold neB at h; split at h
  · exact ⟨_, _, ha, hb, h _ F H (.refl s) (rBl _)⟩
  · exact h.elim
theorem od_catT : OpVDen K ce (rCatA K) catT := fun E F H x y a b Q s ha hb h => by
  unfold catT at h; split at h
  · split at h
    · rename_i hz
      unfold Rep at ha hb
      obtain ⟨p, vs, rfl, hp, hvs⟩ := ha
      obtain ⟨q, ws, rfl, hq, hws⟩ := hb
      have hl := hvs.length
      have hl2 := hws.length
      have hcat := hvs.app hws
      refine ⟨p, q, vs, ws, rfl, rfl, .of (s _ _ hp), .of (s _ _ hq), by omega, fun e => ?_, fun _ e => ?_, fun _ _ n hn => ?_⟩
      · subst e
        refine h _ F H (.refl s) ?_
        unfold Rep; exact ⟨q, ws, rfl, hq, by simpa using hcat⟩
      · subst e
        refine h _ F H (.refl s) ?_
        unfold Rep; exact ⟨p, vs, rfl, hp, by simpa using hcat⟩
      · refine h _ _ _ (.made s hn) ?_
        unfold Rep; exact ⟨n, vs ++ ws, rfl, upd_same, Reps.mono (sameUpd (s.free hn)) _ _ hcat⟩
    · exact h.elim
  · exact h.elim
theorem od_catL : OpDenF K ce rCat catL := fun E F H x y a b Q s ha hb h => by
  unfold catL at h; split at h
  · split at h
    · rename_i hz
      obtain ⟨p, vs, rfl, hp, hvs⟩ := ha
      obtain ⟨q, ws, rfl, hq, hws⟩ := hb
      have hl := hvs.length
      have hl2 := hws.length
      exact ⟨p, q, vs, ws, rfl, rfl, hp, hq, by omega, fun n hn => h n _ F _ (.laid s hn) (s.free hn) hn upd_same ⟨_, rfl, hvs.app hws⟩⟩
    · exact h.elim
  · exact h.elim
theorem od_repL : OpDenF K ce rRep repL := fun E F H x y a b Q s ha hb h => by
  unfold repL at h; split at h
  · split at h
    · rename_i hz
      obtain ⟨p, vs, rfl, hp, hvs⟩ := ha
      cases hb
      have hl := hvs.length
      exact ⟨p, _, vs, rfl, rfl, hp, hz.1, hz.2.1, by rw [hl]; exact hz.2.2, fun n hn => h n _ F _ (.laid s hn) (s.free hn) hn upd_same ⟨_, rfl, hvs.repl _⟩⟩
    · exact h.elim
  · exact h.elim
theorem od_repT : OpDenF K ce (rRepT K) repT := fun E F H x y a b Q s ha hb h => by
  unfold repT at h; split at h
  · split at h
    · rename_i hz
      obtain ⟨p, vs, rfl, hp, hvs⟩ := ha
      cases hb
      have hl := hvs.length
      refine ⟨p, _, vs, rfl, rfl, .of hp, fun e => ?_, hz.2.1, hz.2.2.1, by rw [hl]; exact hz.2.2.2, fun n hn => h n _ F _ (.laid s hn) (s.free hn) hn upd_same ⟨_, rfl, hvs.repl _⟩⟩
      subst e
      exact hz.1 (List.eq_nil_of_length_eq_zero hl.symm)
    · exact h.elim
  · exact h.elim
theorem od_catS : OpDen K ce (fun x y H Q => ∃ i j, x = .str i ∧ y = .str j ∧ i.length + j.length ≤ sizeLine ∧ Q (.str (i ++ j)) H) catS := fun E F H x y a b Q s ha hb h => by
  unfold catS at h; split at h
  · split at h
    · rename_i c; exact ⟨_, _, ha, hb, c, h _ F H (.refl s) (rStr _)⟩
    · exact h.elim
  · exact h.elim
theorem atI_reps {xs : List D} {vs : List V} {i : Int} {d : D} (r : Reps K ce F xs vs) (e : atI xs i = some d) : ∃ v, atI vs i = some v ∧ Rep K ce F d v := by
  unfold atI at e ⊢
  rw [r.length]
  cases q : ixN xs.length i with
  | none => rw [q] at e; cases e
  | some j =>
    rw [q] at e
    obtain ⟨v, h1, h2⟩ := r.get (i := j) (d := d) e
    exact ⟨v, h1, h2⟩
theorem od_get : OpDen K ce (rIx K) getD := fun E F H x y a b Q s ha hb h => by
  unfold getD at h; split at h
  · split at h
    · rename_i e
      obtain ⟨p, vs, rfl, hp, hvs⟩ := ha
      obtain ⟨v, h1, h2⟩ := atI_reps hvs e
      exact .inl ⟨p, vs, _, v, rfl, hb, .of hp, h1, h v F H (.refl s) h2⟩
    · exact h.elim
  · split at h
    · rename_i e
      obtain ⟨p, vs, rfl, hp, hvs⟩ := ha
      obtain ⟨v, h1, h2⟩ := atI_reps hvs e
      exact .inr (.inl ⟨p, vs, _, v, rfl, hb, .of hp, h1, h v F H (.refl s) h2⟩)
    · exact h.elim
  · split at h
    · rename_i ns i _ n e
      obtain ⟨p, rfl, hp⟩ := ha
      refine .inl ⟨p, _, _, .int n, rfl, hb, hp, ?_, h _ F H (.refl s) (rInt _)⟩
      unfold atI at e ⊢
      rw [List.length_map]
      cases q : ixN ns.length i with
      | none => rw [q] at e; cases e
      | some j =>
        rw [q] at e
        simp only [Option.bind_some] at e ⊢
        rw [List.getElem?_map, e]; rfl
    · exact h.elim
  · split at h
    · rename_i hz
      split at h
      · rename_i e
        exact .inr (.inr ⟨_, _, _, ha, hb, hz, e, h _ F H (.refl s) (rStr _)⟩)
      · exact h.elim
    · exact h.elim
  · exact h.elim
end
end FL

/-! FL3: slices, built-in functions, deep equality, membership, dicts, fields, on plain data. -/
namespace FL
open PySem PySem.Spec PyProof.Rows L2

/-! ### slices -/
def cutG {α : Type} (xs : List α) (lo hi : Option Int) : List α := (xs.drop (HT.sIx xs.length 0 lo)).take (HT.sIx xs.length xs.length hi - HT.sIx xs.length 0 lo)
def oNo : Slots → Res (Option Int) := fun _ => .ok none
def oAt (f : EFn) : Slots → Res (Option Int) := fun Γ => (f Γ).bind fun d => match d with
  | .int i => .ok (some i)
  | _ => .stuck
def slL : D → Option Int → Option Int → Res D
  | .lst xs, lo, hi => .ok (.lst (cutG xs lo hi))
  | .scr ns, lo, hi => .ok (.lst ((cutG ns lo hi).map D.int))
  | _, _, _ => .stuck
def slT : D → Option Int → Option Int → Res D
  | .tup xs, lo, hi => .ok (.tup (cutG xs lo hi))
  | _, _, _ => .stuck
def slS : D → Option Int → Option Int → Res D
  | .str z, lo, hi => if z.length ≤ sizeLine then .ok (.str (Txt.slice z lo hi)) else .stuck
  | _, _, _ => .stuck
def eSl (o : D → Option Int → Option Int → Res D) (f : EFn) (l h : Slots → Res (Option Int)) : EFn := fun Γ => (f Γ).bind fun d => (l Γ).bind fun lo => (h Γ).bind fun hi => o d lo hi
def revL : D → Res D
  | .lst xs => .ok (.lst xs.reverse)
  | .scr ns => .ok (.lst (ns.reverse.map D.int))
  | _ => .stuck
section
variable (K : PySem.W.Frag) (ce : CE) (W : Wish)
def DenO (t : TO) (f : Slots → Res (Option Int)) : Prop := ∀ (Γ : Slots) (σ : L2.St) (F H : Hp) (Q : Option Int → Hp → Prop), Ev K ce Γ σ F H → (f Γ).wp (W.W H) (fun o => ∀ F' H', Ext F H F' H' → Q o H') → t σ H Q
end
section
variable {K : PySem.W.Frag} {ce : CE} {W : Wish} {t ta tb tc : TE} {f g h : EFn} {tA : TA} {fs : Slots → Res (List D)} {F H : Hp}
theorem Reps.cut {ds : List D} {vs : List V} (r : Reps K ce F ds vs) (lo hi : Option Int) : Reps K ce F (cutG ds lo hi) (cutV vs lo hi) := by
  unfold cutG cutV
  rw [r.length]
  exact (r.drop _).take _
theorem cut_ints (ns : List Int) (lo hi : Option Int) : cutV (ns.map V.int) lo hi = (cutG ns lo hi).map V.int := by
  unfold cutG cutV
  rw [List.length_map, List.map_take, List.map_drop]
theorem den_ono : DenO K ce W tNoPart oNo := fun Γ σ F H Q ev h => h F H (.refl ev.sub)
theorem den_oat (x : DenB K ce W ta f) : DenO K ce W (tPart ta) (oAt f) := fun Γ σ F H Q ev h => by
  refine x Γ σ F H _ ev (Res.wp_mono (Res.wp_bind h) (fun _ z => z) fun d _ k v F' H' e r => ?_)
  split at k
  · exact ⟨_, r, k F' H' e⟩
  · exact k.elim
theorem den_slL {tl th : TO} {l h' : Slots → Res (Option Int)} (x : DenB K ce W ta f) (y : DenO K ce W tl l) (z : DenO K ce W th h') : DenF K ce W (tSl (rSlL K) ta tl th) (eSl slL f l h') := fun Γ σ F H Q ev h => by
  refine x Γ σ F H _ ev (Res.wp_mono (Res.wp_bind h) (fun _ z => z) fun d _ k v F1 H1 e1 r => ?_)
  refine y Γ σ F1 H1 _ (ev.ext e1) (Res.wp_mono (Res.wp_bind k) (fun _ z => W.mono e1.sH z) fun lo _ k F2 H2 e2 => ?_)
  refine z Γ σ F2 H2 _ ((ev.ext e1).ext e2) (Res.wp_mono (Res.wp_bind k) (fun _ z => W.mono (e1.trans e2).sH z) fun hi _ k F3 H3 e3 => ?_)
  have r3 := BRep.mono (e2.trans e3).sF (e2.trans e3).sH _ _ r
  have e := e1.trans (e2.trans e3)
  unfold slL at k
  split at k
  · obtain ⟨a, vs, rfl, ha, hv⟩ := r3
    exact ⟨a, vs, rfl, .of ha, fun p hp => k p _ F3 _ (e.trans (.laid e3.sub hp)) (e3.sub.free hp) (e.sH.free hp) upd_same ⟨_, rfl, hv.cut _ _⟩⟩
  · obtain ⟨a, rfl, ha⟩ := r3
    refine ⟨a, _, rfl, ha, fun p hp => k p _ F3 _ (e.trans (.laid e3.sub hp)) (e3.sub.free hp) (e.sH.free hp) upd_same ⟨_, rfl, ?_⟩⟩
    rw [cut_ints]; exact Reps.ints
  · exact k.elim
theorem den_slT {tl th : TO} {l h' : Slots → Res (Option Int)} (x : DenV K ce W ta f) (y : DenO K ce W tl l) (z : DenO K ce W th h') : DenV K ce W (tSl (rSlA K) ta tl th) (eSl slT f l h') := fun Γ σ F H Q ev h => by
  refine x Γ σ F H _ ev (Res.wp_mono (Res.wp_bind h) (fun _ z => z) fun d _ k v F1 H1 e1 r => ?_)
  refine y Γ σ F1 H1 _ (ev.ext e1) (Res.wp_mono (Res.wp_bind k) (fun _ z => W.mono e1.sH z) fun lo _ k F2 H2 e2 => ?_)
  refine z Γ σ F2 H2 _ ((ev.ext e1).ext e2) (Res.wp_mono (Res.wp_bind k) (fun _ z => W.mono (e1.trans e2).sH z) fun hi _ k F3 H3 e3 => ?_)
  have r3 := Rep.mono (e2.trans e3).sF _ _ r
  have e := e1.trans (e2.trans e3)
  unfold slT at k
  split at k
  · rename_i ds
    unfold Rep at r3
    obtain ⟨a, vs, rfl, ha, hv⟩ := r3
    have hc := hv.cut lo hi
    refine ⟨a, vs, rfl, .of (e3.sub _ _ ha), fun hw => ?_, fun _ p hp => ?_⟩
    · refine k _ F3 H3 e ?_
      have q : cutV vs lo hi = vs := by
        unfold cutV
        rw [hw.1, hw.2, List.drop_zero, Nat.sub_zero, List.take_length]
      rw [q] at hc
      unfold Rep; exact ⟨a, vs, rfl, ha, hc⟩
    · refine k _ _ _ (e.trans (.made e3.sub hp)) ?_
      unfold Rep; exact ⟨p, _, rfl, upd_same, Reps.mono (sameUpd (e3.sub.free hp)) _ _ hc⟩
  · exact k.elim
theorem den_slS {tl th : TO} {l h' : Slots → Res (Option Int)} (x : DenB K ce W ta f) (y : DenO K ce W tl l) (z : DenO K ce W th h') : DenV K ce W (tSl (fun x lo hi H Q => ∃ z, x = .str z ∧ z.length ≤ sizeLine ∧ Q (.str (Txt.slice z lo hi)) H) ta tl th) (eSl slS f l h') := fun Γ σ F H Q ev h => by
  refine x Γ σ F H _ ev (Res.wp_mono (Res.wp_bind h) (fun _ z => z) fun d _ k v F1 H1 e1 r => ?_)
  refine y Γ σ F1 H1 _ (ev.ext e1) (Res.wp_mono (Res.wp_bind k) (fun _ z => W.mono e1.sH z) fun lo _ k F2 H2 e2 => ?_)
  refine z Γ σ F2 H2 _ ((ev.ext e1).ext e2) (Res.wp_mono (Res.wp_bind k) (fun _ z => W.mono (e1.trans e2).sH z) fun hi _ k F3 H3 e3 => ?_)
  have r3 := BRep.mono (e2.trans e3).sF (e2.trans e3).sH _ _ r
  have e := e1.trans (e2.trans e3)
  unfold slS at k
  split at k
  · split at k
    · rename_i hz; exact ⟨_, r3, hz, k _ F3 H3 e (rStr _)⟩
    · exact k.elim
  · exact k.elim
theorem den_revL (x : DenB K ce W ta f) : DenF K ce W (tRevL K ta) (e1 revL f) := fun Γ σ F H Q ev h => by
  refine x Γ σ F H _ ev (Res.wp_mono (Res.wp_bind h) (fun _ z => z) fun d _ k v F3 H3 e r3 => ?_)
  unfold revL at k
  split at k
  · obtain ⟨a, vs, rfl, ha, hv⟩ := r3
    exact ⟨a, vs, rfl, .of ha, fun p hp => k p _ F3 _ (e.trans (.laid e.sub hp)) (e.sub.free hp) (e.sH.free hp) upd_same ⟨_, rfl, hv.rev⟩⟩
  · obtain ⟨a, rfl, ha⟩ := r3
    refine ⟨a, _, rfl, ha, fun p hp => k p _ F3 _ (e.trans (.laid e.sub hp)) (e.sub.free hp) (e.sH.free hp) upd_same ⟨_, rfl, ?_⟩⟩
    rw [← List.map_reverse]; exact Reps.ints
  · exact k.elim
end

/-! ### built-in functions -/
def lenD : List D → Res D
  | [.lst xs] => .ok (.int xs.length)
  | [.tup xs] => .ok (.int xs.length)
  | [.scr xs] => .ok (.int xs.length)
  | _ => .stuck
def lenS : List D → Res D
  | [.str z] => if z.length ≤ sizeLine then .ok (.int z.length) else .stuck
  | _ => .stuck
def lenK : List D → Res D
  | [.dI xs] => .ok (.int xs.length)
  | [.dS xs] => .ok (.int xs.length)
  | _ => .stuck
def lenT : List D → Res D
  | [.dT xs] => .ok (.int xs.length)
  | _ => .stuck
def listD : List D → Res D
  | [.lst xs] => .ok (.lst xs)
  | [.tup xs] => .ok (.lst xs)
  | [.scr ns] => .ok (.lst (ns.map D.int))
  | _ => .stuck
def tupD : List D → Res D
  | [.lst xs] => .ok (.tup xs)
  | _ => .stuck
def tupT : List D → Res D
  | [.tup xs] => .ok (.tup xs)
  | _ => .stuck
def absD : List D → Res D
  | [.int i] => .ok (.int (if i < 0 then -i else i))
  | _ => .stuck
def max2D : List D → Res D
  | [.int i, .int j] => .ok (.int (if j > i then j else i))
  | _ => .stuck
def min2D : List D → Res D
  | [.int i, .int j] => .ok (.int (if j < i then j else i))
  | _ => .stuck
def intD : List D → Res D
  | [.int i] => .ok (.int i)
  | [.bl k] => .ok (.int (if k then 1 else 0))
  | _ => .stuck
def asInt : D → Option Int
  | .int i => some i
  | _ => none
def asInts : List D → Option (List Int)
  | [] => some []
  | .int i :: r => (asInts r).map (i :: ·)
  | _ :: _ => none
def asBls : List D → Option (List Bool)
  | [] => some []
  | .bl i :: r => (asBls r).map (i :: ·)
  | _ :: _ => none
def sumD : List D → Res D
  | [.lst xs] => match asInts xs with
    | some ns => .ok (.int ns.sum)
    | none => .stuck
  | _ => .stuck
def allD : List D → Res D
  | [.lst xs] => match asBls xs with
    | some bs => .ok (.bl (bs.all id))
    | none => .stuck
  | _ => .stuck
def anyD : List D → Res D
  | [.lst xs] => match asBls xs with
    | some bs => .ok (.bl (bs.any id))
    | none => .stuck
  | _ => .stuck
def maxL : List Int → Int
  | [] => 0
  | [a] => a
  | a :: r => let m := maxL r; if m < a then a else m
def minL : List Int → Int
  | [] => 0
  | [a] => a
  | a :: r => let m := minL r; if a < m then a else m
def maxD : List D → Res D
  | [.lst xs] => match asInts xs with
    | some (a :: r) => .ok (.int (maxL (a :: r)))
    | _ => .stuck
  | _ => .stuck
def minD : List D → Res D
  | [.lst xs] => match asInts xs with
    | some (a :: r) => .ok (.int (minL (a :: r)))
    | _ => .stuck
  | _ => .stuck
/-- sorted by insertion -/
def insI (a : Int) : List Int → List Int
  | [] => [a]
  | b :: r => if a ≤ b then a :: b :: r else b :: insI a r
def sortI : List Int → List Int
  | [] => []
  | a :: r => insI a (sortI r)
def sortedD : List D → Res D
  | [.lst xs] => match asInts xs with
    | some ns => .ok (.lst ((sortI ns).map D.int))
    | none => .stuck
  | _ => .stuck
def sortedK : List D → Res D
  | [.dI kvs] => if kvs.length ≤ sizeLine then .ok (.lst ((sortI (kvs.map (·.1))).map D.int)) else .stuck
  | _ => .stuck

theorem insI_perm (a : Int) : ∀ l : List Int, (insI a l).Perm (a :: l)
  | [] => .refl _
  | b :: r => by
    unfold insI
    split
    · exact .refl _
    · exact ((insI_perm a r).cons b).trans (.swap a b r)
theorem sortI_perm : ∀ l : List Int, (sortI l).Perm l
  | [] => .refl _
  | a :: r => (insI_perm a (sortI r)).trans ((sortI_perm r).cons a)
theorem insI_sorted (a : Int) : ∀ l : List Int, l.Pairwise (· ≤ ·) → (insI a l).Pairwise (· ≤ ·)
  | [], _ => List.pairwise_singleton _ _
  | b :: r, h => by
    unfold insI
    split
    · rename_i hab
      refine List.pairwise_cons.mpr ⟨fun c hc => ?_, h⟩
      rcases List.mem_cons.mp hc with rfl | hc
      · exact hab
      · exact Int.le_trans hab ((List.pairwise_cons.mp h).1 c hc)
    · rename_i hab
      obtain ⟨h1, h2⟩ := List.pairwise_cons.mp h
      refine List.pairwise_cons.mpr ⟨fun c hc => ?_, insI_sorted a r h2⟩
      rcases List.mem_cons.mp ((insI_perm a r).mem_iff.mp hc) with rfl | hc
      · omega
      · exact h1 c hc
theorem sortI_sorted : ∀ l : List Int, (sortI l).Pairwise (· ≤ ·)
  | [] => .nil
  | a :: r => insI_sorted a _ (sortI_sorted r)
theorem sorted_one : ∀ {a b : List Int}, a.Perm b → a.Pairwise (· ≤ ·) → b.Pairwise (· ≤ ·) → a = b
  | [], b, p, _, _ => (List.nil_perm.mp p).symm
  | x :: xs, [], p, _, _ => by
    have := p.length_eq
    simp at this
  | x :: xs, y :: ys, p, hx, hy => by
    obtain ⟨x1, x2⟩ := List.pairwise_cons.mp hx
    obtain ⟨y1, y2⟩ := List.pairwise_cons.mp hy
    have e : x = y := by
      have m1 : x ∈ y :: ys := p.mem_iff.mp List.mem_cons_self
      have m2 : y ∈ x :: xs := p.mem_iff.mpr List.mem_cons_self
      rcases List.mem_cons.mp m1 with e | m1
      · exact e
      · rcases List.mem_cons.mp m2 with e | m2
        · exact e.symm
        · have := x1 y m2
          have := y1 x m1
          omega
    subst e
    rw [sorted_one (List.Perm.cons_inv p) x2 y2]
theorem sort_is {a b : List Int} (p : a.Perm b) (h : a.Pairwise (· ≤ ·)) : a = sortI b := sorted_one (p.trans (sortI_perm b).symm) h (sortI_sorted b)
theorem maxL_mem : ∀ (a : Int) (r : List Int), maxL (a :: r) ∈ a :: r
  | a, [] => List.mem_cons_self
  | a, b :: r => by
    unfold maxL
    have ih := maxL_mem b r
    dsimp only
    split
    · exact List.mem_cons_self
    · exact List.mem_cons_of_mem _ ih
theorem maxL_ge : ∀ (a : Int) (r : List Int) (y : Int), y ∈ a :: r → y ≤ maxL (a :: r)
  | a, [], y, h => by
    rcases List.mem_cons.mp h with rfl | h
    · exact Int.le_refl _
    · cases h
  | a, b :: r, y, h => by
    have ih := maxL_ge b r
    unfold maxL
    dsimp only
    rcases List.mem_cons.mp h with rfl | h
    · split <;> omega
    · have := ih y h
      split <;> omega
theorem minL_mem : ∀ (a : Int) (r : List Int), minL (a :: r) ∈ a :: r
  | a, [] => List.mem_cons_self
  | a, b :: r => by
    unfold minL
    have ih := minL_mem b r
    dsimp only
    split
    · exact List.mem_cons_self
    · exact List.mem_cons_of_mem _ ih
theorem minL_le : ∀ (a : Int) (r : List Int) (y : Int), y ∈ a :: r → minL (a :: r) ≤ y
  | a, [], y, h => by
    rcases List.mem_cons.mp h with rfl | h
    · exact Int.le_refl _
    · cases h
  | a, b :: r, y, h => by
    have ih := minL_le b r
    unfold minL
    dsimp only
    rcases List.mem_cons.mp h with rfl | h
    · split <;> omega
    · have := ih y h
      split <;> omega

section
variable {K : PySem.W.Frag} {ce : CE} {W : Wish} {F H : Hp}
theorem br1 {d : D} {xs : List V} (h : BReps K ce F H [d] xs) : ∃ v, xs = [v] ∧ BRep K ce F H d v := by
  obtain ⟨v, r, rfl, h1, h2⟩ := h
  cases (show r = [] from h2)
  exact ⟨v, rfl, h1⟩
theorem br2 {d e : D} {xs : List V} (h : BReps K ce F H [d, e] xs) : ∃ v w, xs = [v, w] ∧ BRep K ce F H d v ∧ BRep K ce F H e w := by
  obtain ⟨v, r, rfl, h1, h2⟩ := h
  obtain ⟨w, rfl, h3⟩ := br1 h2
  exact ⟨v, w, rfl, h1, h3⟩
theorem r1 {d : D} {xs : List V} (h : Reps K ce F [d] xs) : ∃ v, xs = [v] ∧ Rep K ce F d v := by
  unfold Reps at h
  obtain ⟨v, r, rfl, h1, h2⟩ := h
  unfold Reps at h2
  subst h2
  exact ⟨v, rfl, h1⟩
theorem asInts_r : ∀ {ds : List D} {vs : List V} {ns : List Int}, asInts ds = some ns → Reps K ce F ds vs → vs = ns.map V.int
  | [], vs, ns, e, h => by
    unfold Reps at h; subst h
    unfold asInts at e; cases e; rfl
  | d :: ds, vs, ns, e, h => by
    unfold Reps at h
    obtain ⟨v, r, rfl, h1, h2⟩ := h
    cases d <;> unfold asInts at e
    case int i =>
      cases q : asInts ds with
      | none => rw [q] at e; cases e
      | some ms =>
        rw [q] at e
        cases e
        unfold Rep at h1
        rw [h1, asInts_r q h2]
        rfl
    all_goals cases e
theorem asBls_r : ∀ {ds : List D} {vs : List V} {ns : List Bool}, asBls ds = some ns → Reps K ce F ds vs → vs = ns.map V.bl
  | [], vs, ns, e, h => by
    unfold Reps at h; subst h
    unfold asBls at e; cases e; rfl
  | d :: ds, vs, ns, e, h => by
    unfold Reps at h
    obtain ⟨v, r, rfl, h1, h2⟩ := h
    cases d <;> unfold asBls at e
    case bl i =>
      cases q : asBls ds with
      | none => rw [q] at e; cases e
      | some ms =>
        rw [q] at e
        cases e
        unfold Rep at h1
        rw [h1, asBls_r q h2]
        rfl
    all_goals cases e
theorem cd_len : CallDen K ce (fun xs H Q => ∃ p ys, xs = [.ref p] ∧ (SqL K H p ys ∨ SqT K H p ys) ∧ Q (.int ys.length) H) lenD := fun E F H xs ds Q s ha h => by
  unfold lenD at h
  split at h
  · obtain ⟨v, rfl, a, vs, rfl, hp, hv⟩ := br1 ha
    exact ⟨a, vs, rfl, .inl (.of hp), by rw [hv.length]; exact h _ F H (.refl s) (rInt _)⟩
  · obtain ⟨v, rfl, a, vs, rfl, hp, hv⟩ := br1 ha
    exact ⟨a, vs, rfl, .inr (.of hp), by rw [hv.length]; exact h _ F H (.refl s) (rInt _)⟩
  · obtain ⟨v, rfl, a, rfl, hp⟩ := br1 ha
    exact ⟨a, _, rfl, .inl hp, by rw [List.length_map]; exact h _ F H (.refl s) (rInt _)⟩
  · exact h.elim
theorem cd_lenS : CallDen K ce (fun xs H Q => ∃ z, xs = [.str z] ∧ z.length ≤ sizeLine ∧ Q (.int z.length) H) lenS := fun E F H xs ds Q s ha h => by
  unfold lenS at h
  split at h
  · split at h
    · rename_i hz
      obtain ⟨v, rfl, h1⟩ := br1 ha
      cases h1
      exact ⟨_, rfl, hz, h _ F H (.refl s) (rInt _)⟩
    · exact h.elim
  · exact h.elim
theorem cd_list : CallDenF K ce (fun xs H Q => ∃ p ys, xs = [.ref p] ∧ (SqL K H p ys ∨ SqT K H p ys) ∧ ∀ l, H l = none → Q (.ref l) (upd H l (.lst ys))) listD := fun E F H xs ds Q s ha h => by
  unfold listD at h
  split at h
  · obtain ⟨v, rfl, a, vs, rfl, hp, hv⟩ := br1 ha
    exact ⟨a, vs, rfl, .inl (.of hp), fun l hl => h l _ F _ (.laid s hl) (s.free hl) hl upd_same ⟨_, rfl, hv⟩⟩
  · obtain ⟨v, rfl, a, vs, rfl, hp, hv⟩ := br1 ha
    exact ⟨a, vs, rfl, .inr (.of hp), fun l hl => h l _ F _ (.laid s hl) (s.free hl) hl upd_same ⟨_, rfl, hv⟩⟩
  · obtain ⟨v, rfl, a, rfl, hp⟩ := br1 ha
    exact ⟨a, _, rfl, .inl hp, fun l hl => h l _ F _ (.laid s hl) (s.free hl) hl upd_same ⟨_, rfl, Reps.ints⟩⟩
  · exact h.elim
theorem cd_tup : CallDenF K ce (fun xs H Q => ∃ p ys, xs = [.ref p] ∧ ((SqL K H p ys ∧ ∀ l, H l = none → Q (.ref l) (upd H l (.tup ys))) ∨ (SqT K H p ys ∧ Q (.ref p) H))) tupD := fun E F H xs ds Q s ha h => by
  unfold tupD at h
  split at h
  · obtain ⟨v, rfl, a, vs, rfl, hp, hv⟩ := br1 ha
    exact ⟨a, vs, rfl, .inl ⟨.of hp, fun l hl => h l _ F _ (.laid s hl) (s.free hl) hl upd_same ⟨_, rfl, hv⟩⟩⟩
  · exact h.elim
theorem cd_tupT : CallVDen K ce (fun xs H Q => ∃ p ys, xs = [.ref p] ∧ ((SqL K H p ys ∧ ∀ l, H l = none → Q (.ref l) (upd H l (.tup ys))) ∨ (SqT K H p ys ∧ Q (.ref p) H))) tupT := fun E F H xs ds Q s ha h => by
  unfold tupT at h
  split at h
  · obtain ⟨v, rfl, q⟩ := r1 ha
    have q' := q
    unfold Rep at q
    obtain ⟨a, vs, rfl, hp, hv⟩ := q
    exact ⟨a, vs, rfl, .inr ⟨.of (s _ _ hp), h _ F H (.refl s) q'⟩⟩
  · exact h.elim
theorem cd_abs : CallDen K ce (fun xs H Q => ∃ i, xs = [.int i] ∧ Q (.int (if i < 0 then -i else i)) H) absD := fun E F H xs ds Q s ha h => by
  unfold absD at h
  split at h
  · obtain ⟨v, rfl, h1⟩ := br1 ha
    cases h1
    exact ⟨_, rfl, h _ F H (.refl s) (rInt _)⟩
  · exact h.elim
theorem cd_max2 : CallDen K ce (fun xs H Q => ∃ i j, xs = [.int i, .int j] ∧ Q (.int (if j > i then j else i)) H) max2D := fun E F H xs ds Q s ha h => by
  unfold max2D at h
  split at h
  · obtain ⟨v, w, rfl, h1, h2⟩ := br2 ha
    cases h1; cases h2
    exact ⟨_, _, rfl, h _ F H (.refl s) (rInt _)⟩
  · exact h.elim
theorem cd_min2 : CallDen K ce (fun xs H Q => ∃ i j, xs = [.int i, .int j] ∧ Q (.int (if j < i then j else i)) H) min2D := fun E F H xs ds Q s ha h => by
  unfold min2D at h
  split at h
  · obtain ⟨v, w, rfl, h1, h2⟩ := br2 ha
    cases h1; cases h2
    exact ⟨_, _, rfl, h _ F H (.refl s) (rInt _)⟩
  · exact h.elim
theorem cd_int : CallDen K ce (fun xs H Q => (∃ i, xs = [.int i] ∧ Q (.int i) H) ∨ ∃ k, xs = [.bl k] ∧ Q (.int (if k then 1 else 0)) H) intD := fun E F H xs ds Q s ha h => by
  unfold intD at h
  split at h
  · obtain ⟨v, rfl, h1⟩ := br1 ha
    cases h1
    exact .inl ⟨_, rfl, h _ F H (.refl s) (rInt _)⟩
  · obtain ⟨v, rfl, h1⟩ := br1 ha
    cases h1
    exact .inr ⟨_, rfl, h _ F H (.refl s) (rInt _)⟩
  · exact h.elim
theorem cd_sum : CallDen K ce (rSum K) sumD := fun E F H xs ds Q s ha h => by
  unfold sumD at h
  split at h
  · split at h
    · rename_i e
      obtain ⟨v, rfl, a, vs, rfl, hp, hv⟩ := br1 ha
      rw [asInts_r e hv] at hp
      exact ⟨a, _, rfl, .of hp, h _ F H (.refl s) (rInt _)⟩
    · exact h.elim
  · exact h.elim
theorem cd_all : CallDen K ce (rAll K) allD := fun E F H xs ds Q s ha h => by
  unfold allD at h
  split at h
  · split at h
    · rename_i e
      obtain ⟨v, rfl, a, vs, rfl, hp, hv⟩ := br1 ha
      rw [asBls_r e hv] at hp
      exact ⟨a, _, rfl, .of hp, h _ F H (.refl s) (rBl _)⟩
    · exact h.elim
  · exact h.elim
theorem cd_any : CallDen K ce (rAny K) anyD := fun E F H xs ds Q s ha h => by
  unfold anyD at h
  split at h
  · split at h
    · rename_i e
      obtain ⟨v, rfl, a, vs, rfl, hp, hv⟩ := br1 ha
      rw [asBls_r e hv] at hp
      exact ⟨a, _, rfl, .of hp, h _ F H (.refl s) (rBl _)⟩
    · exact h.elim
  · exact h.elim
theorem cd_max : CallDen K ce (rMax K) maxD := fun E F H xs ds Q s ha h => by
  unfold maxD at h
  split at h
  · split at h
    · rename_i a r e
      obtain ⟨v, rfl, p, vs, rfl, hp, hv⟩ := br1 ha
      rw [asInts_r e hv] at hp
      refine ⟨p, _, rfl, .of hp, by simp, fun m hm hy => ?_⟩
      have q : m = maxL (a :: r) := Int.le_antisymm (maxL_ge a r m hm) (hy _ (maxL_mem a r))
      rw [q]
      exact h _ F H (.refl s) (rInt _)
    · exact h.elim
  · exact h.elim
theorem cd_min : CallDen K ce (rMin K) minD := fun E F H xs ds Q s ha h => by
  unfold minD at h
  split at h
  · split at h
    · rename_i a r e
      obtain ⟨v, rfl, p, vs, rfl, hp, hv⟩ := br1 ha
      rw [asInts_r e hv] at hp
      refine ⟨p, _, rfl, .of hp, by simp, fun m hm hy => ?_⟩
      have q : m = minL (a :: r) := Int.le_antisymm (hy _ (minL_mem a r)) (minL_le a r m hm)
      rw [q]
      exact h _ F H (.refl s) (rInt _)
    · exact h.elim
  · exact h.elim
theorem cd_sorted : CallDenF K ce (rSortedI K) sortedD := fun E F H xs ds Q s ha h => by
  unfold sortedD at h
  split at h
  · split at h
    · rename_i e
      obtain ⟨v, rfl, p, vs, rfl, hp, hv⟩ := br1 ha
      rw [asInts_r e hv] at hp
      refine ⟨p, _, rfl, .of hp, fun ns' q pm so hq => ?_⟩
      rw [sort_is pm so]
      exact h q _ F _ (.laid s hq) (s.free hq) hq upd_same ⟨_, rfl, Reps.ints⟩
    · exact h.elim
  · exact h.elim
theorem repsI_keys : ∀ {kvs : List (Int × D)} {l : List (Key × V)}, RepsI K ce F kvs l → l.map (·.1) = (kvs.map (·.1)).map Sum.inl
  | [], l, h => by unfold RepsI at h; subst h; rfl
  | (k, d) :: r, l, h => by
    unfold RepsI at h
    obtain ⟨v, l', rfl, _, h2⟩ := h
    rw [List.map_cons, repsI_keys h2]
    rfl
theorem cd_sortedK : CallDenF K ce (fun xs H Q => ∃ (a : Addr) (kvs : List (Key × V)) (ks : List Int), xs = [.ref a] ∧ Rd H a (.dK kvs) ∧ kvs.map (·.1) = ks.map Sum.inl ∧ ks.length ≤ sizeLine ∧
    ∀ (ys : List Int) (p : Addr), ys.Perm ks → ys.Pairwise (· ≤ ·) → H p = none → Q (.ref p) (upd H p (.lst (ys.map V.int)))) sortedK := fun E F H xs ds Q s ha h => by
  unfold sortedK at h
  split at h
  · split at h
    · rename_i kvs hz
      obtain ⟨v, rfl, p, l, rfl, hp, hv⟩ := br1 ha
      refine ⟨p, l, kvs.map (·.1), rfl, .inl hp, repsI_keys hv, by rw [List.length_map]; exact hz, fun ys q pm so hq => ?_⟩
      rw [sort_is pm so]
      exact h q _ F _ (.laid s hq) (s.free hq) hq upd_same ⟨_, rfl, Reps.ints⟩
    · exact h.elim
  · exact h.elim
end

/-! ### isinstance -/
def subN (a b : TyN) : Bool := a == b || (a == .bl && b == .int)
theorem kit_tab (a b : TyN) : kitB a.s b.s = some (subN a b) := by
  cases a <;> cases b <;> decide +kernel
def tyOf : D → Option TyN
  | .non => some .non
  | .bl _ => some .bl
  | .int _ => some .int
  | .str _ => some .str
  | .tup _ => some .tup
  | .lst _ => some .lst
  | .scr _ => some .lst
  | .dI _ => some .dic
  | .dT _ => some .dic
  | .dS _ => some .dic
  | _ => none
def isiD : List D → Res D
  | [x, .ty n] => match tyOf x with
    | some t => .ok (.bl (subN t n))
    | none => .stuck
  | _ => .stuck
def asTys : List D → Option (List TyN)
  | [] => some []
  | .ty n :: r => (asTys r).map (n :: ·)
  | _ :: _ => none
def isiT : List D → Res D
  | [x, .tup ts] => match tyOf x, asTys ts with
    | some t, some ns => .ok (.bl (ns.any fun n => subN t n))
    | _, _ => .stuck
  | _ => .stuck
section
variable {K : PySem.W.Frag} {ce : CE} {W : Wish} {F H : Hp}
theorem tyX_of {d : D} {v : V} {t : TyN} (e : tyOf d = some t) (h : BRep K ce F H d v) : TyX K H v (.type t.s) := by
  cases d <;> unfold tyOf at e
  case non => cases e; cases h; exact .base .non
  case bl => cases e; cases h; exact .base (.bl _)
  case int => cases e; cases h; exact .base (.int _)
  case str => cases e; cases h; exact .base (.str _)
  case tup => cases e; obtain ⟨a, vs, rfl, hp, _⟩ := h; exact .base (.tup hp)
  case lst => cases e; obtain ⟨a, vs, rfl, hp, _⟩ := h; exact .base (.lst hp)
  case scr =>
    cases e
    obtain ⟨a, rfl, hp⟩ := h
    rcases hp with (hp | ⟨o, hp⟩) | ⟨o, its, n, hk, hc, _⟩
    · exact .base (.lst hp)
    · exact .base (.frz hp)
    · exact .kList hk hc
  case dI => cases e; obtain ⟨a, vs, rfl, hp, _⟩ := h; exact .base (.dK hp)
  case dS => cases e; obtain ⟨a, vs, rfl, hp, _⟩ := h; exact .base (.dK hp)
  case dT => cases e; obtain ⟨a, vs, rfl, hp, _⟩ := h; exact .base (.dT hp)
  all_goals cases e
theorem cd_isi : CallDen K ce (rIsi K) isiD := fun E F H xs ds Q s ha h => by
  unfold isiD at h
  split at h
  · split at h
    · rename_i e
      obtain ⟨v, w, rfl, h1, h2⟩ := br2 ha
      cases h2
      exact ⟨v, _, _, _, _, rfl, .ty _, tyX_of e h1, kit_ty (kit_tab _ _), h _ F H (.refl s) (rBl _)⟩
    · exact h.elim
  · exact h.elim
theorem asTys_r : ∀ {ds : List D} {vs : List V} {ns : List TyN}, asTys ds = some ns → Reps K ce F ds vs → Paired ClsV vs (ns.map fun n => Value.type n.s)
  | [], vs, ns, e, h => by
    unfold Reps at h; subst h
    unfold asTys at e; cases e; exact .nil
  | d :: ds, vs, ns, e, h => by
    unfold Reps at h
    obtain ⟨v, r, rfl, h1, h2⟩ := h
    cases d <;> unfold asTys at e
    case ty i =>
      cases q : asTys ds with
      | none => rw [q] at e; cases e
      | some ms =>
        rw [q] at e
        cases e
        unfold Rep at h1
        subst h1
        exact .cons (.ty _) (asTys_r q h2)
    all_goals cases e
theorem kitAny_tab (t : TyN) : ∀ ns : List TyN, PySem.W.kitAny K (.type t.s) (ns.map fun n => Value.type n.s) = some (ns.any fun n => subN t n)
  | [] => rfl
  | n :: r => by
    rw [List.map_cons, List.any_cons]
    refine kitAny_cons (kit_ty (kit_tab t n)) (fun hb => ?_) fun hb => ?_
    · rw [hb, Bool.false_or]; exact kitAny_tab t r
    · rw [hb, Bool.true_or]
theorem cd_isiT : CallDen K ce (rIsiT K) isiT := fun E F H xs ds Q s ha h => by
  unfold isiT at h
  split at h
  · split at h
    · rename_i e1 e2
      obtain ⟨v, w, rfl, h1, h2⟩ := br2 ha
      obtain ⟨a, vs, rfl, hp, hv⟩ := h2
      exact ⟨v, a, vs, _, _, _, rfl, hp, asTys_r e2 hv, tyX_of e1 h1, kitAny_tab _ _, h _ F H (.refl s) (rBl _)⟩
    · exact h.elim
  · exact h.elim
theorem den_ty (n : TyN) : DenV K ce W (tC (.ty n.s)) (eC (.ty n)) := fun Γ σ F H Q ev h => h _ F H (.refl ev.sub) (by unfold Rep; rfl)
end
end FL

/-! FL4: deep equality, membership, list.index, dicts, fields; what is walked; comprehensions. -/
namespace FL
open PySem PySem.Spec PyProof.Rows L2

/-! ### as the library's own data -/
mutual
def py : D → Option PyData
  | .non => some .none
  | .bl b => some (.bool b)
  | .int i => some (.int i)
  | .str x => some (.str x)
  | .tup ds => (pys ds).map .tuple
  | .lst ds => (pys ds).map .list
  | .scr ns => some (.list (ns.map .int))
  | _ => none
def pys : List D → Option (List PyData)
  | [] => some []
  | d :: ds => (py d).bind fun p => (pys ds).map (p :: ·)
end
def eqD (a b : D) : Res D := match py a, py b with
    | some p, some q => if SeqAt.shaped p = true ∧ SeqAt.shaped q = true then .ok (.bl (PyData.eqv p q)) else .stuck
    | _, _ => .stuck
def neD (a b : D) : Res D := match py a, py b with
    | some p, some q => if SeqAt.shaped p = true ∧ SeqAt.shaped q = true then .ok (.bl (!PyData.eqv p q)) else .stuck
    | _, _ => .stuck
def inDp : D → D → Res D
  | a, .lst ds => match py a, pys ds with
    | some p, some qs => if SeqAt.shaped p = true ∧ SeqAt.shaped (.list qs) = true then .ok (.bl (qs.any fun z => PyData.eqv z p)) else .stuck
    | _, _ => .stuck
  | _, _ => .stuck
def ninDp : D → D → Res D
  | a, .lst ds => match py a, pys ds with
    | some p, some qs => if SeqAt.shaped p = true ∧ SeqAt.shaped (.list qs) = true then .ok (.bl (!qs.any fun z => PyData.eqv z p)) else .stuck
    | _, _ => .stuck
  | _, _ => .stuck
def fndP : List PyData → PyData → Option Nat
  | [], _ => none
  | z :: r, p => if PyData.eqv z p = true then some 0 else (fndP r p).map (· + 1)
def idxD : D → List D → Res D
  | .lst ds, [a] => match py a, pys ds with
    | some p, some qs => if SeqAt.shaped p = true ∧ SeqAt.shaped (.list qs) = true then (match fndP qs p with
      | some j => .ok (.int (j : Nat))
      | none => .stuck) else .stuck
    | _, _ => .stuck
  | _, _ => .stuck
/-- flat membership: of whole numbers, texts .. -/
def flatD : D → Bool
  | .non => true
  | .bl _ => true
  | .int _ => true
  | .str _ => true
  | _ => false
def eqF : D → D → Bool
  | .non, .non => true
  | .bl a, .bl b => a == b
  | .bl a, .int b => (if a then 1 else 0) == b
  | .int a, .bl b => a == (if b then 1 else 0)
  | .int a, .int b => a == b
  | .str a, .str b => a == b
  | _, _ => false
def inF : D → D → Res D
  | a, .lst ds => if flatD a = true ∧ ds.all flatD = true then .ok (.bl (ds.any fun z => eqF z a)) else .stuck
  | a, .tup ds => if flatD a = true ∧ ds.all flatD = true then .ok (.bl (ds.any fun z => eqF z a)) else .stuck
  | _, _ => .stuck
def ninF : D → D → Res D
  | a, .lst ds => if flatD a = true ∧ ds.all flatD = true then .ok (.bl (!ds.any fun z => eqF z a)) else .stuck
  | a, .tup ds => if flatD a = true ∧ ds.all flatD = true then .ok (.bl (!ds.any fun z => eqF z a)) else .stuck
  | _, _ => .stuck
section
variable {K : PySem.W.Frag} {ce : CE} {W : Wish} {F H : Hp}
theorem dp_ints {ns : List Int} : DpAll K H (ns.map V.int) (ns.map PyData.int) := by
  induction ns with
  | nil => exact .nil
  | cons n r ih => exact .cons (.int n) ih
mutual
theorem py_dp (s : Same F H) : ∀ (d : D) (v : V) (p : PyData), Rep K ce F d v → py d = some p → Dp K H v p
  | .non, v, p, h, e => by unfold Rep at h; unfold py at e; cases e; subst h; exact .non
  | .bl b, v, p, h, e => by unfold Rep at h; unfold py at e; cases e; subst h; exact .bl b
  | .int b, v, p, h, e => by unfold Rep at h; unfold py at e; cases e; subst h; exact .int b
  | .str b, v, p, h, e => by unfold Rep at h; unfold py at e; cases e; subst h; exact .str b
  | .tup ds, v, p, h, e => by
    unfold Rep at h; unfold py at e
    obtain ⟨a, vs, rfl, ha, hv⟩ := h
    cases q : pys ds with
    | none => rw [q] at e; cases e
    | some ps => rw [q] at e; cases e; exact .tup (.of (s _ _ ha)) (pys_dp s ds vs ps hv q)
  | .lst ds, v, p, h, e => by
    unfold Rep at h; unfold py at e
    obtain ⟨a, vs, rfl, ha, hv⟩ := h
    cases q : pys ds with
    | none => rw [q] at e; cases e
    | some ps => rw [q] at e; cases e; exact .lst (.of (s _ _ ha)) (pys_dp s ds vs ps hv q)
  | .scr ns, v, p, h, e => by
    unfold Rep at h; unfold py at e
    obtain ⟨a, rfl, ha⟩ := h
    cases e
    exact .lst (s.seq ha) dp_ints
  | .dI _, v, p, h, e => by unfold py at e; cases e
  | .dS _, v, p, h, e => by unfold py at e; cases e
  | .dT _, v, p, h, e => by unfold py at e; cases e
  | .dN _, v, p, h, e => by unfold py at e; cases e
  | .ins _ _, v, p, h, e => by unfold py at e; cases e
  | .ty _, v, p, h, e => by unfold py at e; cases e
theorem pys_dp (s : Same F H) : ∀ (ds : List D) (vs : List V) (ps : List PyData), Reps K ce F ds vs → pys ds = some ps → DpAll K H vs ps
  | [], vs, ps, h, e => by unfold Reps at h; unfold pys at e; cases e; subst h; exact .nil
  | d :: ds, vs, ps, h, e => by
    unfold Reps at h; unfold pys at e
    obtain ⟨v, r, rfl, h1, h2⟩ := h
    cases q : py d with
    | none => rw [q] at e; cases e
    | some p =>
      rw [q] at e
      cases q2 : pys ds with
      | none => rw [q2] at e; cases e
      | some qs => rw [q2] at e; cases e; exact .cons (py_dp s d v p h1 q) (pys_dp s ds r qs h2 q2)
end
theorem py_bp (s : Same F H) {d : D} {v : V} {p : PyData} (h : BRep K ce F H d v) (e : py d = some p) : Dp K H v p := by
  cases d <;> unfold py at e
  case non => cases e; cases h; exact .non
  case bl b => cases e; cases h; exact .bl b
  case int b => cases e; cases h; exact .int b
  case str b => cases e; cases h; exact .str b
  case tup ds =>
    obtain ⟨a, vs, rfl, ha, hv⟩ := h
    cases q : pys ds with
    | none => rw [q] at e; cases e
    | some ps => rw [q] at e; cases e; exact .tup (.of ha) (pys_dp s ds vs ps hv q)
  case lst ds =>
    obtain ⟨a, vs, rfl, ha, hv⟩ := h
    cases q : pys ds with
    | none => rw [q] at e; cases e
    | some ps => rw [q] at e; cases e; exact .lst (.of ha) (pys_dp s ds vs ps hv q)
  case scr ns => obtain ⟨a, rfl, ha⟩ := h; cases e; exact .lst ha dp_ints
  all_goals cases e
theorem od_eqD : OpDen K ce (rEqD K) eqD := fun E F H x y a b Q s ha hb h => by
  unfold eqD at h; split at h
  · rename_i e1 e2
    split at h
    · rename_i hs
      exact ⟨_, _, py_bp s ha e1, py_bp s hb e2, hs.1, hs.2, h _ F H (.refl s) (rBl _)⟩
    · exact h.elim
  · exact h.elim
theorem od_neD : OpDen K ce (rNeD K) neD := fun E F H x y a b Q s ha hb h => by
  unfold neD at h; split at h
  · rename_i e1 e2
    split at h
    · rename_i hs
      exact ⟨_, _, py_bp s ha e1, py_bp s hb e2, hs.1, hs.2, h _ F H (.refl s) (rBl _)⟩
    · exact h.elim
  · exact h.elim
theorem py_lst {ds : List D} {qs : List PyData} (e : pys ds = some qs) : py (.lst ds) = some (.list qs) := by unfold py; rw [e]; rfl
theorem od_inDp : OpDen K ce (rInD K) inDp := fun E F H x y a b Q s ha hb h => by
  unfold inDp at h; split at h
  · split at h
    · rename_i e1 e2
      split at h
      · rename_i hs
        exact ⟨_, _, py_bp s ha e1, py_bp s hb (py_lst e2), hs.1, hs.2, h _ F H (.refl s) (rBl _)⟩
      · exact h.elim
    · exact h.elim
  · exact h.elim
theorem od_ninDp : OpDen K ce (rNotInD K) ninDp := fun E F H x y a b Q s ha hb h => by
  unfold ninDp at h; split at h
  · split at h
    · rename_i e1 e2
      split at h
      · rename_i hs
        exact ⟨_, _, py_bp s ha e1, py_bp s hb (py_lst e2), hs.1, hs.2, h _ F H (.refl s) (rBl _)⟩
      · exact h.elim
    · exact h.elim
  · exact h.elim
theorem flat_b {d : D} {v : V} (h : BRep K ce F H d v) (f : flatD d = true) : flatV v = true := by
  cases d <;> unfold flatD at f
  case non => cases h; rfl
  case bl => cases h; rfl
  case int => cases h; rfl
  case str => cases h; rfl
  all_goals cases f
theorem flat_all : ∀ {ds : List D} {vs : List V}, Reps K ce F ds vs → ds.all flatD = true → vs.all flatV = true
  | [], vs, h, f => by unfold Reps at h; subst h; rfl
  | d :: ds, vs, h, f => by
    unfold Reps at h
    obtain ⟨v, r, rfl, h1, h2⟩ := h
    rw [List.all_cons, Bool.and_eq_true] at f ⊢
    exact ⟨flat_b (Rep.b (.refl F) h1) f.1, flat_all h2 f.2⟩
theorem eq_flat {a b : D} {x y : V} (ha : BRep K ce F H a x) (hb : BRep K ce F H b y) (fa : flatD a = true) (fb : flatD b = true) : eqV x y = eqF a b := by
  cases a <;> unfold flatD at fa <;> first | (cases fa; done) | skip
  all_goals (cases b <;> unfold flatD at fb <;> first | (cases fb; done) | skip)
  all_goals (cases ha; cases hb; rfl)
theorem any_flat {b : D} {y : V} (hb : BRep K ce F F b y) (fb : flatD b = true) : ∀ {ds : List D} {vs : List V}, Reps K ce F ds vs → ds.all flatD = true → (vs.any fun z => eqV z y) = ds.any fun z => eqF z b
  | [], vs, h, f => by unfold Reps at h; subst h; rfl
  | d :: ds, vs, h, f => by
    unfold Reps at h
    obtain ⟨v, r, rfl, h1, h2⟩ := h
    rw [List.all_cons, Bool.and_eq_true] at f
    rw [List.any_cons, List.any_cons, any_flat hb fb h2 f.2, eq_flat (Rep.b (.refl F) h1) hb f.1 fb]
theorem flat_ff {d : D} {v : V} (h : BRep K ce F H d v) (f : flatD d = true) : BRep K ce F F d v := by
  cases d <;> unfold flatD at f <;> first | exact h | cases f
theorem od_inF : OpDen K ce (rIn K false) inF := fun E F H x y a b Q s ha hb h => by
  unfold inF at h; split at h
  · split at h
    · rename_i hf
      obtain ⟨p, vs, rfl, hp, hv⟩ := hb
      refine ⟨p, vs, rfl, .inl (.of hp), flat_b ha hf.1, flat_all hv hf.2, ?_⟩
      show Q (.bl (inV x vs)) H
      unfold inV
      rw [any_flat (flat_ff ha hf.1) hf.1 hv hf.2]
      exact h _ F H (.refl s) (rBl _)
    · exact h.elim
  · split at h
    · rename_i hf
      obtain ⟨p, vs, rfl, hp, hv⟩ := hb
      refine ⟨p, vs, rfl, .inr (.of hp), flat_b ha hf.1, flat_all hv hf.2, ?_⟩
      show Q (.bl (inV x vs)) H
      unfold inV
      rw [any_flat (flat_ff ha hf.1) hf.1 hv hf.2]
      exact h _ F H (.refl s) (rBl _)
    · exact h.elim
  · exact h.elim
theorem od_ninF : OpDen K ce (rIn K true) ninF := fun E F H x y a b Q s ha hb h => by
  unfold ninF at h; split at h
  · split at h
    · rename_i hf
      obtain ⟨p, vs, rfl, hp, hv⟩ := hb
      refine ⟨p, vs, rfl, .inl (.of hp), flat_b ha hf.1, flat_all hv hf.2, ?_⟩
      show Q (.bl (!inV x vs)) H
      unfold inV
      rw [any_flat (flat_ff ha hf.1) hf.1 hv hf.2]
      exact h _ F H (.refl s) (rBl _)
    · exact h.elim
  · split at h
    · rename_i hf
      obtain ⟨p, vs, rfl, hp, hv⟩ := hb
      refine ⟨p, vs, rfl, .inr (.of hp), flat_b ha hf.1, flat_all hv hf.2, ?_⟩
      show Q (.bl (!inV x vs)) H
      unfold inV
      rw [any_flat (flat_ff ha hf.1) hf.1 hv hf.2]
      exact h _ F H (.refl s) (rBl _)
    · exact h.elim
  · exact h.elim
theorem fndP_ok : ∀ {qs : List PyData} {p : PyData} {j : Nat}, fndP qs p = some j → ∃ z, qs[j]? = some z ∧ PyData.eqv z p = true ∧ ∀ (m : Nat) (z' : PyData), m < j → qs[m]? = some z' → PyData.eqv z' p = false
  | [], p, j, e => by cases e
  | z :: r, p, j, e => by
    unfold fndP at e
    split at e
    · rename_i hz
      cases e
      exact ⟨z, rfl, hz, fun m z' h => absurd h (Nat.not_lt_zero _)⟩
    · rename_i hz
      cases q : fndP r p with
      | none => rw [q] at e; cases e
      | some i =>
        rw [q] at e
        cases e
        obtain ⟨w, h1, h2, h3⟩ := fndP_ok q
        refine ⟨w, by simpa using h1, h2, fun m z' hm hz' => ?_⟩
        cases m with
        | zero =>
          simp at hz'
          subst hz'
          simpa using hz
        | succ m =>
          have hm' : m + 1 < i + 1 := hm
          exact h3 m z' (by omega) (by simpa using hz')
end

/-! ### methods of lists that change nothing -/
def isL : D → Bool
  | .lst _ => true
  | .scr _ => true
  | _ => false
def eML (o : D → List D → Res D) (f : EFn) (fs : Slots → Res (List D)) : EFn := fun Γ => (f Γ).bind fun a => if isL a = true then (fs Γ).bind fun ds => o a ds else .stuck
def MtDen (K : PySem.W.Frag) (ce : CE) (r : V → List V → Hp → VK → Prop) (o : D → List D → Res D) : Prop := ∀ (E : Exn → Prop) (F H : Hp) (x : V) (xs : List V) (a : D) (ds : List D) (Q : VK), Same F H → BRep K ce F H a x → BReps K ce F H ds xs →
  (o a ds).wp E (fun d => ∀ v F' H', Ext F H F' H' → Rep K ce F' d v → Q v H') → r x xs H Q
section
variable {K : PySem.W.Frag} {ce : CE} {W : Wish} {F H : Hp} {t ta tb tc : TE} {f g h : EFn} {tA : TA} {fs : Slots → Res (List D)}
theorem isL_ty {d : D} {v : V} (e : isL d = true) (h : BRep K ce F H d v) : tyV K "list" v H := by
  cases d <;> unfold isL at e
  case lst => obtain ⟨a, vs, rfl, hp, _⟩ := h; exact .inl ⟨rfl, vs, .of hp⟩
  case scr => obtain ⟨a, rfl, hp⟩ := h; exact .inl ⟨rfl, _, hp⟩
  all_goals cases e
theorem den_bmL {r : V → List V → Hp → VK → Prop} {o : D → List D → Res D} (ho : MtDen K ce r o) (x : DenB K ce W ta f) (y : DenA K ce W tA fs) : DenV K ce W (tBM K "list" r ta tA) (eML o f fs) := fun Γ σ F H Q ev h => by
  refine x Γ σ F H _ ev (Res.wp_mono (Res.wp_bind h) (fun _ z => z) fun a _ k v F1 H1 e1 r1 => ?_)
  split at k
  · rename_i hl
    refine ⟨isL_ty hl r1, y Γ σ F1 H1 _ (ev.ext e1) (Res.wp_mono (Res.wp_bind k) (fun _ z => W.mono e1.sH z) fun ds _ k2 vs F2 H2 e2 r2 => ?_)⟩
    exact ho _ F2 H2 v vs a ds Q e2.sub (BRep.mono e2.sF e2.sH _ _ r1) r2 (Res.wp_mono k2 (fun _ z => z) fun d _ k3 u F3 H3 e3 r3 => k3 u F3 H3 (e1.trans (e2.trans e3)) r3)
  · exact k.elim
theorem md_idx : MtDen K ce (rIndexD K) idxD := fun E F H x xs a ds Q s ha hs h => by
  unfold idxD at h; split at h
  · split at h
    · rename_i e1 e2
      split at h
      · rename_i hsh
        split at h
        · rename_i ej
          obtain ⟨w, rfl, hw⟩ := br1 hs
          obtain ⟨z, z1, z2, z3⟩ := fndP_ok ej
          have hL := py_bp s ha (py_lst e2)
          obtain ⟨p, vs, rfl, hp, hv⟩ := ha
          exact ⟨p, w, _, _, _, z, rfl, rfl, hL, py_bp s hw e1, hsh.2, hsh.1, z1, z2, z3, h _ F H (.refl s) (rInt _)⟩
        · exact h.elim
      · exact h.elim
    · exact h.elim
  · exact h.elim
end

/-! ### dicts -/
def lk {α : Type} [DecidableEq α] : List (α × D) → α → Option D
  | [], _ => none
  | (a, d) :: r, k => if a = k then some d else lk r k
def putD {α : Type} [DecidableEq α] (kvs : List (α × D)) (k : α) (v : D) : List (α × D) :=
  if (kvs.any fun kv => decide (kv.1 = k)) = true then kvs.map fun kv => if kv.1 = k then (kv.1, v) else kv else kvs ++ [(k, v)]
/-- a dict's answer for a key -/
def dlk : D → D → Res (Option D)
  | .dI kvs, .int k => .ok (lk kvs k)
  | .dS kvs, .str k => .ok (lk kvs k)
  | .dT kvs, .tup ks => match asInts ks with
    | some is => .ok (lk kvs is)
    | none => .stuck
  | _, _ => .stuck
def dget (d k : D) : Res D := (dlk d k).bind fun o => match o with
  | some v => .ok v
  | none => .stuck
def din (k d : D) : Res D := (dlk d k).bind fun o => .ok (.bl o.isSome)
def dnin (k d : D) : Res D := (dlk d k).bind fun o => .ok (.bl (!o.isSome))
def dput (d k v : D) : Res D := match d, k with
  | .dI kvs, .int k => if kvs.length < sizeLine then .ok (.dI (putD kvs k v)) else .stuck
  | .dS kvs, .str k => if kvs.length < sizeLine then .ok (.dS (putD kvs k v)) else .stuck
  | .dT kvs, .tup ks => match asInts ks with
    | some is => if kvs.length < sizeLine then .ok (.dT (putD kvs is v)) else .stuck
    | none => .stuck
  | _, _ => .stuck
def isDc : D → Bool
  | .dI _ => true
  | .dS _ => true
  | .dT _ => true
  | _ => false
def eDg1 (f g : EFn) : EFn := fun Γ => (f Γ).bind fun d => if isDc d = true then (g Γ).bind fun k => (dlk d k).bind fun o => .ok (o.getD .non) else .stuck
def eDg2 (f g h : EFn) : EFn := fun Γ => (f Γ).bind fun d => if isDc d = true then (g Γ).bind fun k => (h Γ).bind fun z => (dlk d k).bind fun o => .ok (o.getD z) else .stuck

/-- the pairs of a dict: e turns the keys -/
def RKV {α β : Type} (K : PySem.W.Frag) (ce : CE) (F : Hp) (e : α → β) (kvs : List (α × D)) (l : List (β × V)) : Prop := l.map (·.1) = kvs.map (fun p => e p.1) ∧ Reps K ce F (kvs.map (·.2)) (l.map (·.2))
section
variable {K : PySem.W.Frag} {ce : CE} {W : Wish} {F H : Hp} {t ta tb tc : TE} {f g h : EFn}
theorem repsI_iff : ∀ {kvs : List (Int × D)} {l : List (Key × V)}, RepsI K ce F kvs l ↔ RKV K ce F Sum.inl kvs l
  | [], l => by
    unfold RepsI RKV
    constructor
    · rintro rfl; exact ⟨rfl, .nil⟩
    · rintro ⟨h, _⟩; simpa using h
  | (k, d) :: r, l => by
    unfold RepsI RKV
    constructor
    · rintro ⟨v, l', rfl, h1, h2⟩
      obtain ⟨q1, q2⟩ := repsI_iff.mp h2
      exact ⟨by rw [List.map_cons, List.map_cons, q1], .cons h1 q2⟩
    · rintro ⟨h1, h2⟩
      cases l with
      | nil => simp at h1
      | cons p l' =>
        obtain ⟨pk, pv⟩ := p
        rw [List.map_cons, List.map_cons] at h1
        injection h1 with e1 e2
        rw [List.map_cons, List.map_cons] at h2
        unfold Reps at h2
        obtain ⟨v, r', e3, h3, h4⟩ := h2
        injection e3 with e4 e5
        subst e4 e5
        have e1' : pk = Sum.inl k := e1
        subst e1'
        exact ⟨pv, l', rfl, h3, repsI_iff.mpr ⟨e2, h4⟩⟩
theorem repsS_iff : ∀ {kvs : List (Str × D)} {l : List (Key × V)}, RepsS K ce F kvs l ↔ RKV K ce F Sum.inr kvs l
  | [], l => by
    unfold RepsS RKV
    constructor
    · rintro rfl; exact ⟨rfl, .nil⟩
    · rintro ⟨h, _⟩; simpa using h
  | (k, d) :: r, l => by
    unfold RepsS RKV
    constructor
    · rintro ⟨v, l', rfl, h1, h2⟩
      obtain ⟨q1, q2⟩ := repsS_iff.mp h2
      exact ⟨by rw [List.map_cons, List.map_cons, q1], .cons h1 q2⟩
    · rintro ⟨h1, h2⟩
      cases l with
      | nil => simp at h1
      | cons p l' =>
        obtain ⟨pk, pv⟩ := p
        rw [List.map_cons, List.map_cons] at h1
        injection h1 with e1 e2
        rw [List.map_cons, List.map_cons] at h2
        unfold Reps at h2
        obtain ⟨v, r', e3, h3, h4⟩ := h2
        injection e3 with e4 e5
        subst e4 e5
        have e1' : pk = Sum.inr k := e1
        subst e1'
        exact ⟨pv, l', rfl, h3, repsS_iff.mpr ⟨e2, h4⟩⟩
theorem repsT_iff : ∀ {kvs : List (List Int × D)} {l : List (List Key × V)}, RepsT K ce F kvs l ↔ RKV K ce F (List.map Sum.inl) kvs l
  | [], l => by
    unfold RepsT RKV
    constructor
    · rintro rfl; exact ⟨rfl, .nil⟩
    · rintro ⟨h, _⟩; simpa using h
  | (k, d) :: r, l => by
    unfold RepsT RKV
    constructor
    · rintro ⟨v, l', rfl, h1, h2⟩
      obtain ⟨q1, q2⟩ := repsT_iff.mp h2
      exact ⟨by rw [List.map_cons, List.map_cons, q1], .cons h1 q2⟩
    · rintro ⟨h1, h2⟩
      cases l with
      | nil => simp at h1
      | cons p l' =>
        obtain ⟨pk, pv⟩ := p
        rw [List.map_cons, List.map_cons] at h1
        injection h1 with e1 e2
        rw [List.map_cons, List.map_cons] at h2
        unfold Reps at h2
        obtain ⟨v, r', e3, h3, h4⟩ := h2
        injection e3 with e4 e5
        subst e4 e5
        have e1' : pk = k.map Sum.inl := e1
        subst e1'
        exact ⟨pv, l', rfl, h3, repsT_iff.mpr ⟨e2, h4⟩⟩
section
variable {α β : Type} [DecidableEq α] [DecidableEq β] {e : α → β}
theorem RKV.val (inj : ∀ a b, e a = e b → a = b) : ∀ {kvs : List (α × D)} {l : List (β × V)} (k : α), RKV K ce F e kvs l → match lk kvs k with
    | some d => ∃ v, valV l (e k) = some v ∧ Rep K ce F d v
    | none => valV l (e k) = none
  | [], l, k, h => by
    obtain ⟨h1, _⟩ := h
    have : l = [] := by simpa using h1
    subst this
    rfl
  | (a, d) :: r, l, k, h => by
    obtain ⟨h1, h2⟩ := h
    cases l with
    | nil => simp at h1
    | cons p l' =>
      obtain ⟨pk, pv⟩ := p
      rw [List.map_cons, List.map_cons] at h1
      injection h1 with e1 e2
      rw [List.map_cons, List.map_cons] at h2
      unfold Reps at h2
      obtain ⟨v, r', e3, h3, h4⟩ := h2
      injection e3 with e4 e5
      subst e4 e5
      have e1' : pk = e a := e1
      subst e1'
      unfold lk
      by_cases q : a = k
      · subst q
        rw [if_pos rfl]
        exact ⟨pv, valV_pos rfl, h3⟩
      · rw [if_neg q]
        have q' : ¬ (e a, pv).1 = e k := fun z => q (inj _ _ z)
        rw [valV_neg q']
        exact RKV.val inj k ⟨e2, h4⟩
theorem any_keys (inj : ∀ a b, e a = e b → a = b) {kvs : List (α × D)} {l : List (β × V)} (k : α) (h : l.map (·.1) = kvs.map (fun p => e p.1)) : (l.any fun kv => decide (kv.1 = e k)) = kvs.any fun kv => decide (kv.1 = k) := by
  have h1 : (l.any fun kv => decide (kv.1 = e k)) = (l.map (·.1)).any fun z => decide (z = e k) := by rw [List.any_map]; rfl
  have h2 : (kvs.any fun kv => decide (kv.1 = k)) = (kvs.map (fun p => e p.1)).any fun z => decide (z = e k) := by
    rw [List.any_map]
    congr 1
    funext p
    show decide (p.1 = k) = decide (e p.1 = e k)
    by_cases q : p.1 = k
    · rw [q]; simp
    · rw [decide_eq_false q, decide_eq_false fun z => q (inj _ _ z)]
  rw [h1, h, h2]
theorem RKV.repl (inj : ∀ a b, e a = e b → a = b) {d : D} {v : V} (hd : Rep K ce F d v) (k : α) : ∀ {kvs : List (α × D)} {l : List (β × V)}, RKV K ce F e kvs l →
    RKV K ce F e (kvs.map fun kv => if kv.1 = k then (kv.1, d) else kv) (l.map fun kv => if kv.1 = e k then (kv.1, v) else kv)
  | [], l, h => by
    obtain ⟨h1, _⟩ := h
    have : l = [] := by simpa using h1
    subst this
    exact ⟨rfl, .nil⟩
  | (a, d') :: r, l, h => by
    obtain ⟨h1, h2⟩ := h
    cases l with
    | nil => simp at h1
    | cons p l' =>
      obtain ⟨pk, pv⟩ := p
      rw [List.map_cons, List.map_cons] at h1
      injection h1 with e1 e2
      rw [List.map_cons, List.map_cons] at h2
      unfold Reps at h2
      obtain ⟨v', r', e3, h3, h4⟩ := h2
      injection e3 with e4 e5
      subst e4 e5
      have e1' : pk = e a := e1
      subst e1'
      obtain ⟨i1, i2⟩ := RKV.repl inj hd k (kvs := r) (l := l') ⟨e2, h4⟩
      by_cases q : a = k
      · subst q
        refine ⟨?_, ?_⟩
        · simp only [List.map_cons, if_pos]
          rw [← i1]
        · simp only [List.map_cons, if_pos]
          exact .cons hd i2
      · have q' : ¬ e a = e k := fun z => q (inj _ _ z)
        refine ⟨?_, ?_⟩
        · simp only [List.map_cons, if_neg q, if_neg q']
          rw [← i1]
        · simp only [List.map_cons, if_neg q, if_neg q']
          exact .cons h3 i2
theorem RKV.put (inj : ∀ a b, e a = e b → a = b) {d : D} {v : V} (hd : Rep K ce F d v) (k : α) {kvs : List (α × D)} {l : List (β × V)} (h : RKV K ce F e kvs l) : RKV K ce F e (putD kvs k d) (putK l (e k) v) := by
  unfold putD putK
  rw [any_keys inj k h.1]
  split
  · exact h.repl inj hd k
  · obtain ⟨h1, h2⟩ := h
    refine ⟨by rw [List.map_append, List.map_append, h1]; rfl, ?_⟩
    rw [List.map_append, List.map_append]
    exact h2.app (.cons hd .nil)
end
theorem RKV.length {α β : Type} {e : α → β} {kvs : List (α × D)} {l : List (β × V)} (h : RKV K ce F e kvs l) : l.length = kvs.length := by
  have := congrArg List.length h.1
  simpa using this
theorem map_inl_inj : ∀ (a b : List Int), a.map (Sum.inl : Int → Key) = b.map Sum.inl → a = b
  | [], [], _ => rfl
  | [], _ :: _, h => by cases h
  | _ :: _, [], h => by cases h
  | x :: xs, y :: ys, h => by
    rw [List.map_cons, List.map_cons] at h
    injection h with h1 h2
    rw [Sum.inl.inj h1, map_inl_inj xs ys h2]
theorem kV_ints (is : List Int) : (is.map (Sum.inl : Int → Key)).map kV = is.map V.int := by rw [List.map_map]; rfl
theorem dlk_fin {v y : V} {o : Option D} {a : Addr} {r : Option V} (h1 : v = .ref a) (h2 : DGet H a y r) (h3 : match o with | some z => ∃ w, r = some w ∧ Rep K ce F z w | none => r = none) :
    ∃ a r, v = .ref a ∧ DGet H a y r ∧ r.isSome = o.isSome ∧ ∀ z, o = some z → ∃ w, r = some w ∧ Rep K ce F z w := by
  cases o with
  | none => subst h3; exact ⟨a, none, h1, h2, rfl, fun z q => by cases q⟩
  | some z =>
    obtain ⟨w, rfl, hw⟩ := h3
    exact ⟨a, some w, h1, h2, rfl, fun z' q => by cases q; exact ⟨w, rfl, hw⟩⟩
/-- a look-up -/
theorem dlk_get {d k : D} {v y : V} {o : Option D} (hd : BRep K ce F H d v) (hk : BRep K ce F H k y) (e : dlk d k = .ok o) : ∃ a r, v = .ref a ∧ DGet H a y r ∧ r.isSome = o.isSome ∧ ∀ z, o = some z → ∃ w, r = some w ∧ Rep K ce F z w := by
  cases d
  case dI kvs =>
    cases k
    case int k =>
      have e' : lk kvs k = o := Res.ok.inj e
      obtain ⟨a, l, rfl, ha, hl⟩ := hd
      cases hk
      have q := RKV.val (fun a b => Sum.inl.inj) k (repsI_iff.mp hl)
      rw [e'] at q
      exact dlk_fin rfl (DGet.k (k := Sum.inl k) ha) q
    all_goals cases e
  case dS kvs =>
    cases k
    case str k =>
      have e' : lk kvs k = o := Res.ok.inj e
      obtain ⟨a, l, rfl, ha, hl⟩ := hd
      cases hk
      have q := RKV.val (fun a b => Sum.inr.inj) k (repsS_iff.mp hl)
      rw [e'] at q
      exact dlk_fin rfl (DGet.k (k := Sum.inr k) ha) q
    all_goals cases e
  case dT kvs =>
    cases k
    case tup ks =>
      cases eis : asInts ks with
      | none =>
        have e2 : (match asInts ks with | some is => Res.ok (lk kvs is) | none => Res.stuck) = Res.ok o := e
        rw [eis] at e2; cases e2
      | some is =>
        have e2 : (match asInts ks with | some is => Res.ok (lk kvs is) | none => Res.stuck) = Res.ok o := e
        rw [eis] at e2
        have e' : lk kvs is = o := Res.ok.inj e2
        obtain ⟨a, l, rfl, ha, hl⟩ := hd
        obtain ⟨b, vs, rfl, hb, hv⟩ := hk
        rw [asInts_r eis hv, ← kV_ints] at hb
        have q := RKV.val map_inl_inj is (repsT_iff.mp hl)
        rw [e'] at q
        exact dlk_fin rfl (DGet.t ha hb) q
    all_goals cases e
  all_goals cases e
theorem den_dget (x : DenB K ce W ta f) (y : DenB K ce W tb g) : DenV K ce W (tDGet ta tb) (e2 dget f g) := fun Γ σ F H Q ev h => by
  refine x Γ σ F H _ ev (Res.wp_mono (Res.wp_bind h) (fun _ z => z) fun d _ k v F1 H1 e1 r1 => ?_)
  refine y Γ σ F1 H1 _ (ev.ext e1) (Res.wp_mono (Res.wp_bind k) (fun _ z => W.mono e1.sH z) fun kd _ k2 u F2 H2 e2 r2 => ?_)
  unfold dget at k2
  cases q : dlk d kd with
  | ok o =>
    rw [q] at k2
    obtain ⟨a, r, rfl, hg, _, hz⟩ := dlk_get (BRep.mono e2.sF e2.sH _ _ r1) r2 q
    cases o with
    | none => exact k2.elim
    | some z =>
      obtain ⟨w, rfl, hw⟩ := hz z rfl
      exact ⟨a, w, rfl, hg, k2 w F2 H2 (e1.trans e2) hw⟩
  | exc c =>
    exfalso
    unfold dlk at q
    split at q <;> first | cases q | (split at q <;> cases q)
  | stuck => rw [q] at k2; exact k2.elim
theorem dlk_ok {d k : D} {α : Type} {f : Option D → Res α} {E : Exn → Prop} {P : α → Prop} (h : ((dlk d k).bind f).wp E P) : ∃ o, dlk d k = .ok o ∧ (f o).wp E P := by
  cases q : dlk d k with
  | ok o => rw [q] at h; exact ⟨o, rfl, h⟩
  | exc c =>
    exfalso
    unfold dlk at q
    split at q <;> first | cases q | (split at q <;> cases q)
  | stuck => rw [q] at h; exact h.elim
theorem den_din (x : DenB K ce W ta f) (y : DenB K ce W tb g) : DenV K ce W (tDIn ta tb) (e2 din f g) := fun Γ σ F H Q ev h => by
  refine x Γ σ F H _ ev (Res.wp_mono (Res.wp_bind h) (fun _ z => z) fun kd _ k v F1 H1 e1 r1 => ?_)
  refine y Γ σ F1 H1 _ (ev.ext e1) (Res.wp_mono (Res.wp_bind k) (fun _ z => W.mono e1.sH z) fun d _ k2 u F2 H2 e2 r2 => ?_)
  obtain ⟨o, q, k3⟩ := dlk_ok k2
  obtain ⟨a, r, rfl, hg, hs, _⟩ := dlk_get r2 (BRep.mono e2.sF e2.sH _ _ r1) q
  exact ⟨a, r, rfl, hg, by rw [hs]; exact k3 _ F2 H2 (e1.trans e2) (rBl _)⟩
theorem den_dnin (x : DenB K ce W ta f) (y : DenB K ce W tb g) : DenV K ce W (tDNotIn ta tb) (e2 dnin f g) := fun Γ σ F H Q ev h => by
  refine x Γ σ F H _ ev (Res.wp_mono (Res.wp_bind h) (fun _ z => z) fun kd _ k v F1 H1 e1 r1 => ?_)
  refine y Γ σ F1 H1 _ (ev.ext e1) (Res.wp_mono (Res.wp_bind k) (fun _ z => W.mono e1.sH z) fun d _ k2 u F2 H2 e2 r2 => ?_)
  obtain ⟨o, q, k3⟩ := dlk_ok k2
  obtain ⟨a, r, rfl, hg, hs, _⟩ := dlk_get r2 (BRep.mono e2.sF e2.sH _ _ r1) q
  exact ⟨a, r, rfl, hg, by rw [hs]; exact k3 _ F2 H2 (e1.trans e2) (rBl _)⟩
theorem isDc_is {d : D} {v : V} (e : isDc d = true) (h : BRep K ce F H d v) : ∃ a, v = .ref a ∧ IsD H a := by
  cases d <;> unfold isDc at e
  case dI => obtain ⟨a, vs, rfl, hp, _⟩ := h; exact ⟨a, rfl, .inl ⟨_, .inl hp⟩⟩
  case dS => obtain ⟨a, vs, rfl, hp, _⟩ := h; exact ⟨a, rfl, .inl ⟨_, .inl hp⟩⟩
  case dT => obtain ⟨a, vs, rfl, hp, _⟩ := h; exact ⟨a, rfl, .inr ⟨_, .inl hp⟩⟩
  all_goals cases e
theorem den_dg1 (x : DenB K ce W ta f) (y : DenB K ce W tb g) : DenV K ce W (tDGet1 ta tb) (eDg1 f g) := fun Γ σ F H Q ev h => by
  refine x Γ σ F H _ ev (Res.wp_mono (Res.wp_bind h) (fun _ z => z) fun d _ k v F1 H1 e1 r1 => ?_)
  split at k
  · rename_i hdc
    obtain ⟨a, rfl, hI⟩ := isDc_is hdc r1
    refine ⟨a, rfl, hI, y Γ σ F1 H1 _ (ev.ext e1) (Res.wp_mono (Res.wp_bind k) (fun _ z => W.mono e1.sH z) fun kd _ k2 u F2 H2 e2 r2 => ?_)⟩
    obtain ⟨o, q, k3⟩ := dlk_ok k2
    obtain ⟨a', r, ea, hg, hs, hz⟩ := dlk_get (BRep.mono e2.sF e2.sH _ _ r1) r2 q
    cases ea
    refine ⟨r, hg, ?_⟩
    cases o with
    | none =>
      cases r with
      | none => exact k3 _ F2 H2 (e1.trans e2) rNon
      | some w => cases hs
    | some z =>
      obtain ⟨w, rfl, hw⟩ := hz z rfl
      exact k3 w F2 H2 (e1.trans e2) hw
  · exact k.elim
theorem den_dg2 (x : DenB K ce W ta f) (y : DenB K ce W tb g) (z : DenV K ce W tc h) : DenV K ce W (tDGet2 ta tb tc) (eDg2 f g h) := fun Γ σ F H Q ev hh => by
  refine x Γ σ F H _ ev (Res.wp_mono (Res.wp_bind hh) (fun _ z => z) fun d _ k v F1 H1 e1 r1 => ?_)
  split at k
  · rename_i hdc
    obtain ⟨a, rfl, hI⟩ := isDc_is hdc r1
    refine ⟨a, rfl, hI, y Γ σ F1 H1 _ (ev.ext e1) (Res.wp_mono (Res.wp_bind k) (fun _ z => W.mono e1.sH z) fun kd _ k2 u F2 H2 e2 r2 => ?_)⟩
    refine z Γ σ F2 H2 _ ((ev.ext e1).ext e2) (Res.wp_mono (Res.wp_bind k2) (fun _ z => W.mono (e1.trans e2).sH z) fun zd _ k2 uz F3 H3 e3 r3 => ?_)
    obtain ⟨o, q, k3⟩ := dlk_ok k2
    obtain ⟨a', r, ea, hg, hs, hz⟩ := dlk_get (BRep.mono (e2.trans e3).sF (e2.trans e3).sH _ _ r1) (BRep.mono e3.sF e3.sH _ _ r2) q
    cases ea
    refine ⟨r, hg, ?_⟩
    cases o with
    | none =>
      cases r with
      | none => exact k3 _ F3 H3 (e1.trans (e2.trans e3)) r3
      | some w => cases hs
    | some z =>
      obtain ⟨w, rfl, hw⟩ := hz z rfl
      exact k3 w F3 H3 (e1.trans (e2.trans e3)) hw
  · exact k.elim
theorem cd_lenK : CallDen K ce (fun xs H Q => ∃ a kvs, xs = [V.ref a] ∧ H a = some (.dK kvs) ∧ Q (.int kvs.length) H) lenK := fun E F H xs ds Q s ha h => by
  unfold lenK at h
  split at h
  · obtain ⟨v, rfl, a, vs, rfl, hp, hv⟩ := br1 ha
    exact ⟨a, vs, rfl, hp, by rw [(repsI_iff.mp hv).length]; exact h _ F H (.refl s) (rInt _)⟩
  · obtain ⟨v, rfl, a, vs, rfl, hp, hv⟩ := br1 ha
    exact ⟨a, vs, rfl, hp, by rw [(repsS_iff.mp hv).length]; exact h _ F H (.refl s) (rInt _)⟩
  · exact h.elim
theorem cd_lenT : CallDen K ce rLenT lenT := fun E F H xs ds Q s ha h => by
  unfold lenT at h
  split at h
  · obtain ⟨v, rfl, a, vs, rfl, hp, hv⟩ := br1 ha
    exact ⟨a, vs, rfl, hp, by rw [(repsT_iff.mp hv).length]; exact h _ F H (.refl s) (rInt _)⟩
  · exact h.elim

/-! ### fields -/
def fldD (c j : Nat) : D → Res D
  | .ins c' ds => if c' = c then (match ds[j]? with
    | some d => .ok d
    | none => .stuck) else .stuck
  | _ => .stuck
theorem zip_lookup : ∀ {ns : List Str} {vs : List V} {j : Nat} {f : Str} {v : V}, ns.Nodup → ns[j]? = some f → vs[j]? = some v → (ns.zip vs).lookup f = some v
  | [], vs, j, f, v, _, h, _ => by simp at h
  | n :: ns, [], j, f, v, _, _, h => by simp at h
  | n :: ns, w :: vs, 0, f, v, _, h1, h2 => by
    simp at h1 h2
    subst h1 h2
    rw [List.zip_cons_cons, List.lookup_cons_self]
  | n :: ns, w :: vs, j + 1, f, v, nd, h1, h2 => by
    have h1' : ns[j]? = some f := by simpa using h1
    have hm : f ∈ ns := List.mem_of_getElem? h1'
    have hne : (f == n) = false := by
      apply beq_eq_false_iff_ne.mpr
      intro e
      subst e
      exact (List.nodup_cons.mp nd).1 hm
    rw [List.zip_cons_cons, List.lookup_cons, hne]
    exact zip_lookup (List.nodup_cons.mp nd).2 h1' (by simpa using h2)
theorem zip_none : ∀ {ns : List Str} {vs : List V} {f : Str}, f ∉ ns → (ns.zip vs).lookup f = none
  | [], vs, f, _ => by simp
  | n :: ns, [], f, _ => by simp
  | n :: ns, w :: vs, f, h => by
    have hne : (f == n) = false := by
      apply beq_eq_false_iff_ne.mpr
      intro e
      subst e
      exact h List.mem_cons_self
    rw [List.zip_cons_cons, List.lookup_cons, hne]
    exact zip_none fun z => h (List.mem_cons_of_mem _ z)
theorem den_fld {c j : Nat} {C : Addr} {ns : List Str} {fn : Str} (hce : ce c = some (C, ns)) (hj : ns[j]? = some fn) (nd : ns.Nodup) (cl : Cls K C) (na : NoAttr K C fn) (x : DenB K ce W ta f) : DenV K ce W (tFld K ta fn) (e1 (fldD c j) f) := fun Γ σ F H Q ev h => by
  refine x Γ σ F H _ ev (Res.wp_mono (Res.wp_bind h) (fun _ z => z) fun d _ k v F1 H1 e1 r1 => ?_)
  unfold fldD at k
  split at k
  · split at k
    · rename_i hc
      subst hc
      split at k
      · rename_i ed
        obtain ⟨a, C', dx, ns', vs, rfl, hce', ha, hl, hv⟩ := r1
        rw [hce] at hce'
        cases hce'
        obtain ⟨w, hw1, hw2⟩ := hv.get ed
        exact ⟨a, C, dx, _, w, rfl, ha, cl, na, zip_lookup nd hj hw1, k w F1 H1 e1 hw2⟩
      · exact k.elim
    · exact k.elim
  · exact k.elim
end
end FL

/-! FL5: what is walked, targets, comprehensions. -/
namespace FL
open PySem PySem.Spec PyProof.Rows L2

/-! ### two rules of the layer's kind: a list or a tuple walked; name = {..} -/
def iSeq (K : PySem.W.Frag) (tl : TE) : TI := fun σ H R => tl σ H fun x H1 => ∃ a, x = .ref a ∧ (((∃ xs, SqL K H1 a xs) ∧ R (Itl K a) H1) ∨ ((∃ xs, SqT K H1 a xs) ∧ R (Itt K a) H1))
theorem pi_seq {X : Cx} {tg l : Expr} {tl : TE} (hl : PE X l tl) : PI X tg l (iSeq X.K tl) := by
  refine ⟨fun pins s σ H R I h => ?_⟩
  refine thn (hl.run pins s σ H _ I h) fun v s1 ⟨x, H1, I1, r1, q1⟩ => ?_
  obtain ⟨a, e, ⟨⟨xs, hq⟩, q⟩ | ⟨⟨xs, hq⟩, q⟩⟩ := q1
  · subst e
    cases r1
    obtain ⟨its, rv, p, hz⟩ := I1.list hq
    refine wpAny_pyIter_list p.isList ?_
    refine ⟨s1.heap.objs.size, [s1.heap.objs.size], _, _, H1, rfl, I1.kept (t' := s1.toks) fun b o e => Heap.get?_push_of_some _ e, turn_list a _, ⟨_, Heap.get?_push_size _ rfl, rfl, rfl⟩, fun b hb => ?_, q⟩
    have e : b = s1.heap.objs.size := by simpa using hb
    subst e
    exact I1.fpOk (Nat.le_refl _) (I1.hok.fresh (Nat.le_refl _))
  · subst e
    cases r1
    obtain ⟨its, rv, p, hz⟩ := I1.tuple hq
    refine wpAny_pyIter_tuple (show s1.heap.IsTuple a its.toArray from p) ?_
    refine ⟨s1.heap.objs.size, [s1.heap.objs.size], _, _, H1, rfl, I1.kept (t' := s1.toks) fun b o e => Heap.get?_push_of_some _ e, turn_tuple a _, ⟨_, Heap.get?_push_size _ rfl, rfl, rfl⟩, fun b hb => ?_, q⟩
    have e : b = s1.heap.objs.size := by simpa using hb
    subst e
    exact I1.fpOk (Nat.le_refl _) (I1.hok.fresh (Nat.le_refl _))
theorem ps_setDc {X : Cx} {i : Nat} {y : Str} {py : Pos} {kx vx tg iter : Expr} {ifs : List Expr} {scope : Scope} {own : List (Str × Nat)} {pos spos : Pos} {wi : TI} {g : TG} {tt : TT} {tk tv : TE} (hc : X.calm = true) (hN : X.N.Nodup) (hy : X.N[i]? = some y) (hyl : X.env.scope.names.lookup y = some .local)
    (hsw : swapsWith (.DictComp kx vx [⟨tg, iter, ifs, 0⟩] scope pos) (some (.Name y py)) spos.line X.env = pure true) (hi : PI X tg iter wi) (ok : BlkOk X.N X.env.scope scope own)
    (hg : ∀ (s : Shared) (H : Hp) (C : Addr) (cl : List (Str × Addr)) (fp : List Addr), PG (X.blk s H scope (compEnvC scope cl C X.env) fp) tg g) (ht : ∀ (s : Shared) (H : Hp) (C : Addr) (cl : List (Str × Addr)) (fp : List Addr), PTs (X.blk s H scope (compEnvC scope cl C X.env) fp) ifs tt)
    (hk : ∀ (s : Shared) (H : Hp) (C : Addr) (cl : List (Str × Addr)) (fp : List Addr), PE (X.blk s H scope (compEnvC scope cl C X.env) fp) kx tk)
    (he : ∀ (s : Shared) (H : Hp) (C : Addr) (cl : List (Str × Addr)) (fp : List Addr), PE (X.blk s H scope (compEnvC scope cl C X.env) fp) vx tv) (hs : ∀ x, foldedSetIterable iter X.env x = pure x := by intro _; rfl) :
    PS X (.Assign [.Name y py] (.DictComp kx vx [⟨tg, iter, ifs, 0⟩] scope pos) spos) (tAsg (tDc wi g tt tk tv (own.map (·.2))) (gName i)) := by
  refine ⟨fun pins s σ H D I h => ?_⟩
  rw [exec_Assign_Name_used _ _ _ _ hsw]
  refine wpAny_bind (wpAny_standAt (wpAny_bind ?_))
  show wpAny _ X.A (do let _ ← comprehension (.DictComp kx vx [⟨tg, iter, ifs, 0⟩] scope pos) scope X.env (firstIterPos [⟨tg, iter, ifs, 0⟩] pos) newDict false (eval iter X.env) (some (assign (.Name y py) X.env))) _ _ s
  have h : tDc wi g tt tk tv (own.map (·.2)) σ H (fun x H1 => gName i x σ H1 D.nx) := h
  refine wpAny_bind (thn (dc_core (Qf := fun _ s' => SP X pins D .next s') hc hN I hi ok hg ht hk he hs h fun L C s' m H' I' q hn f => ?_) fun _ s' hq => wpAny_pure (wpAny_pure hq))
  show wpAny _ _ (assign (.Name y py) X.env (.ref L)) _ _ _
  refine wpAny_assign_Name (store_ok2 (v := V.ref L) I' hN hy (.inl hyl) rfl (fun s2 I2 ⟨a, sb, ha⟩ => ?_) (.inr hyl))
  obtain ⟨f0, f1, f2, f3, f4, f5⟩ := f
  have haC : C ≠ a := by
    rcases ha with z | z
    · rw [z]; exact f1
    · exact fun e => f4 y a z e.symm
  refine ⟨m, hn.sameBut sb haC, fun h3 sb3 => ?_⟩
  exact ⟨_, H', I2.turned (t' := s2.toks) (fun b o hb e => (sb3.2 b hb).trans e) f0 f1 f3 f4 f5, q⟩
theorem sw_trueD {kx vx : Expr} {gs : List Comprehension} {scope : Scope} {pos py : Pos} {y : Str} {l : Nat} {env : PySem.Env} (hk : env.scope.kind = .function) (hy : env.scope.names.lookup y = some .local) (hl : (py.line == pos.line) = true)
    (ha : (scope.names.any fun (n, k) => n == y && (k == .local || k == .cell)) = false) : swapsWith (.DictComp kx vx gs scope pos) (some (.Name y py)) l env = pure true := by
  have ky : env.kindOf y = some .local := hy
  have hb : env.blockKind = .function := by unfold PySem.Env.blockKind; rw [hk]; rfl
  unfold swapsWith
  simp only [hb, ky, ha, Expr.pos, hl]
  rfl

/-! ### what is walked, on data -/
def ItOk (K : PySem.W.Frag) (ce : CE) (J : It) (F B : Hp) (ds : List D) : Prop := ∀ F' H', Same F F' → Same F' H' → Same B H' →
  (∀ (i : Nat) (d : D), ds[i]? = some d → J.go i H' ∧ ∀ x H'', J.yld i H' x H'' → ∃ F'', Ext F' H' F'' H'' ∧ Rep K ce F'' d x) ∧ J.stop ds.length H'
def DenI (K : PySem.W.Frag) (ce : CE) (W : Wish) (wi : TI) (f : Slots → Res (List D)) : Prop := ∀ (Γ : Slots) (σ : L2.St) (F H : Hp) (R : It → Hp → Prop), Ev K ce Γ σ F H →
  (f Γ).wp (W.W H) (fun ds => ∀ J F' H', Ext F H F' H' → ItOk K ce J F' (fun _ => none) ds → R J H') → wi σ H R
/-- .. in a comprehension, where what stands stays -/
def DenIc (K : PySem.W.Frag) (ce : CE) (W : Wish) (wi : TI) (f : Slots → Res (List D)) : Prop := ∀ (Γ : Slots) (σ : L2.St) (F H : Hp) (R : It → Hp → Prop), Ev K ce Γ σ F H →
  (f Γ).wp (W.W H) (fun ds => ∀ J F' H', Ext F H F' H' → ItOk K ce J F' H' ds → R J H') → wi σ H R
def asSeq : D → Res (List D)
  | .lst ds => .ok ds
  | .tup ds => .ok ds
  | .scr ns => .ok (ns.map D.int)
  | _ => .stuck
def iS (f : EFn) : Slots → Res (List D) := fun Γ => (f Γ).bind asSeq
def rgD (lo : Int) (n : Nat) : List D := (List.range n).map fun i => D.int (lo + (i : Nat))
def asR1 : List D → Res (List D)
  | [.int j] => if -4611686018427387904 ≤ j ∧ j < 4611686018427387904 then .ok (rgD 0 j.toNat) else .stuck
  | _ => .stuck
def asR2 : List D → Res (List D)
  | [.int i, .int j] => if -4611686018427387904 ≤ i ∧ i < 4611686018427387904 ∧ -4611686018427387904 ≤ j ∧ j < 4611686018427387904 then .ok (rgD i (j - i).toNat) else .stuck
  | _ => .stuck
/-- range(i, j, -1) -/
def asR3 : List D → Res (List D)
  | [.int i, .int j, .int c] => if c = -1 ∧ -4611686018427387904 ≤ i ∧ i < 4611686018427387904 ∧ -4611686018427387904 ≤ j ∧ j < 4611686018427387904 then .ok ((List.range (i - j).toNat).map fun k => D.int (i + (k : Nat) * (-1))) else .stuck
  | _ => .stuck
def iN (o : List D → Res (List D)) (fs : Slots → Res (List D)) : Slots → Res (List D) := fun Γ => (fs Γ).bind o
def enumL : Nat → List D → List D
  | _, [] => []
  | n, d :: r => .tup [.int (n : Nat), d] :: enumL (n + 1) r
def asEnum : List D → Res (List D)
  | [.lst ds] => .ok (enumL 0 ds)
  | _ => .stuck
def zipL : List D → List D → List D
  | d :: r, e :: s => .tup [d, e] :: zipL r s
  | _, _ => []
def asZip : List D → Res (List D)
  | [.lst ds, .lst es] => .ok (zipL ds es)
  | [.tup ds, .tup es] => .ok (zipL ds es)
  | _ => .stuck
def asRev : D → Res (List D)
  | .lst ds => .ok ds.reverse
  | .tup ds => .ok ds.reverse
  | _ => .stuck
def asSigns : D → Res (List D)
  | .str x => .ok (x.cps.toList.map fun c => D.str ⟨#[c]⟩)
  | _ => .stuck
section
variable {K : PySem.W.Frag} {ce : CE} {W : Wish} {t ta tb tc : TE} {f g h : EFn} {tA : TA} {fs : Slots → Res (List D)} {F H B : Hp}
theorem it_lst {a : Addr} {vs : List V} {ds : List D} (ha : F a = some (.lst vs)) (r : Reps K ce F ds vs) : ItOk K ce (Itl K a) F B ds := fun F' H' s1 s2 _ => by
  have hA : SqL K H' a vs := .of (s2 _ _ (s1 _ _ ha))
  refine ⟨fun i d e => ?_, ⟨vs, hA, by rw [r.length]; exact Nat.le_refl _⟩⟩
  obtain ⟨v, h1, h2⟩ := r.get e
  refine ⟨⟨vs, v, hA, h1⟩, ?_⟩
  rintro x H'' ⟨rfl, hx⟩
  have q := hx vs hA
  rw [h1] at q
  cases q
  exact ⟨F', .refl s2, Rep.mono s1 _ _ h2⟩
theorem it_tup {a : Addr} {vs : List V} {ds : List D} (ha : F a = some (.tup vs)) (r : Reps K ce F ds vs) : ItOk K ce (Itt K a) F B ds := fun F' H' s1 s2 _ => by
  have hA : SqT K H' a vs := .of (s2 _ _ (s1 _ _ ha))
  refine ⟨fun i d e => ?_, ⟨vs, hA, by rw [r.length]; exact Nat.le_refl _⟩⟩
  obtain ⟨v, h1, h2⟩ := r.get e
  refine ⟨⟨vs, v, hA, h1⟩, ?_⟩
  rintro x H'' ⟨rfl, hx⟩
  have q := hx vs hA
  rw [h1] at q
  cases q
  exact ⟨F', .refl s2, Rep.mono s1 _ _ h2⟩
theorem it_scr {a : Addr} {ns : List Int} (ha : SqL K F a (ns.map V.int)) : ItOk K ce (Itl K a) F B (ns.map D.int) := fun F' H' s1 s2 _ => by
  have hA : SqL K H' a (ns.map V.int) := (s1.trans s2).seq ha
  refine ⟨fun i d e => ?_, ⟨_, hA, by simp⟩⟩
  obtain ⟨v, h1, h2⟩ := (Reps.ints (K := K) (ce := ce) (F := F') (ns := ns)).get e
  refine ⟨⟨_, v, hA, h1⟩, ?_⟩
  rintro x H'' ⟨rfl, hx⟩
  have q := hx _ hA
  rw [h1] at q
  cases q
  exact ⟨F', .refl s2, h2⟩
theorem it_rg {lo : Int} {n : Nat} : ItOk K ce (Itr lo n) F B (rgD lo n) := fun F' H' s1 s2 _ => by
  refine ⟨fun i d e => ?_, by unfold rgD; simp [Itr]⟩
  unfold rgD at e
  rw [List.getElem?_map] at e
  cases q : (List.range n)[i]? with
  | none => rw [q] at e; cases e
  | some k =>
    rw [q] at e
    cases e
    obtain ⟨h1, h2⟩ := List.getElem?_eq_some_iff.mp q
    simp at h1 h2
    subst h2
    refine ⟨h1, ?_⟩
    rintro x H'' ⟨rfl, rfl⟩
    exact ⟨F', .refl s2, rInt _⟩
theorem it_rgc {lo c : Int} {n : Nat} : ItOk K ce (Itc lo c n) F B ((List.range n).map fun k => D.int (lo + (k : Nat) * c)) := fun F' H' s1 s2 _ => by
  refine ⟨fun i d e => ?_, by simp [Itc]⟩
  rw [List.getElem?_map] at e
  cases q : (List.range n)[i]? with
  | none => rw [q] at e; cases e
  | some k =>
    rw [q] at e
    cases e
    obtain ⟨h1, h2⟩ := List.getElem?_eq_some_iff.mp q
    simp at h1 h2
    subst h2
    refine ⟨h1, ?_⟩
    rintro x H'' ⟨rfl, rfl⟩
    exact ⟨F', .refl s2, rInt _⟩
theorem enumL_get : ∀ (n : Nat) (ds : List D) (i : Nat) (d : D), (enumL n ds)[i]? = some d → ∃ e, ds[i]? = some e ∧ d = .tup [.int ((n + i : Nat) : Int), e]
  | n, [], i, d, h => by simp [enumL] at h
  | n, x :: r, 0, d, h => by
    simp [enumL] at h
    exact ⟨x, rfl, h.symm⟩
  | n, x :: r, i + 1, d, h => by
    obtain ⟨e, h1, h2⟩ := enumL_get (n + 1) r i d (by simpa [enumL] using h)
    refine ⟨e, by simpa using h1, ?_⟩
    rw [h2, show n + 1 + i = n + (i + 1) by omega]
theorem enumL_len : ∀ (n : Nat) (ds : List D), (enumL n ds).length = ds.length
  | n, [] => rfl
  | n, x :: r => by unfold enumL; rw [List.length_cons, List.length_cons, enumL_len]
theorem it_enum {a : Addr} {vs : List V} {ds : List D} (ha : F a = some (.lst vs)) (r : Reps K ce F ds vs) : ItOk K ce (Ite K a) F B (enumL 0 ds) := fun F' H' s1 s2 _ => by
  have hA : SqL K H' a vs := .of (s2 _ _ (s1 _ _ ha))
  refine ⟨fun i d e => ?_, ⟨vs, hA, by rw [enumL_len, r.length]; exact Nat.le_refl _⟩⟩
  obtain ⟨e', he, rfl⟩ := enumL_get 0 ds i d e
  obtain ⟨v, h1, h2⟩ := r.get he
  refine ⟨⟨vs, v, hA, h1⟩, ?_⟩
  rintro x H'' ⟨T, y, rfl, hT, rfl, hx⟩
  have q := hx vs hA
  rw [h1] at q
  cases q
  refine ⟨_, .made s2 hT, ?_⟩
  unfold Rep
  refine ⟨T, _, rfl, upd_same, .cons ?_ (.cons (Rep.mono (s1.trans (sameUpd (s2.free hT))) _ _ h2) .nil)⟩
  rw [Nat.zero_add]; exact rInt _
theorem zipL_get : ∀ (ds es : List D) (i : Nat) (d : D), (zipL ds es)[i]? = some d → ∃ x y, ds[i]? = some x ∧ es[i]? = some y ∧ d = .tup [x, y]
  | [], es, i, d, h => by simp [zipL] at h
  | x :: r, [], i, d, h => by simp [zipL] at h
  | x :: r, y :: s, 0, d, h => by
    simp [zipL] at h
    exact ⟨x, y, rfl, rfl, h.symm⟩
  | x :: r, y :: s, i + 1, d, h => by
    obtain ⟨x', y', h1, h2, h3⟩ := zipL_get r s i d (by simpa [zipL] using h)
    exact ⟨x', y', by simpa using h1, by simpa using h2, h3⟩
theorem zipL_len : ∀ (ds es : List D), ds.length ≤ (zipL ds es).length ∨ es.length ≤ (zipL ds es).length
  | [], es => .inl (Nat.le_refl _)
  | x :: r, [] => .inr (Nat.le_refl _)
  | x :: r, y :: s => by
    unfold zipL
    simp only [List.length_cons]
    rcases zipL_len r s with h | h
    · exact .inl (by omega)
    · exact .inr (by omega)
theorem it_zip {a b : Addr} {vs ws : List V} {ds es : List D} (ha : F a = some (.lst vs)) (r : Reps K ce F ds vs) (hb : F b = some (.lst ws)) (r2 : Reps K ce F es ws) : ItOk K ce (Itz K a b) F B (zipL ds es) := fun F' H' s1 s2 _ => by
  have hA : SqL K H' a vs := .of (s2 _ _ (s1 _ _ ha))
  have hB : SqL K H' b ws := .of (s2 _ _ (s1 _ _ hb))
  refine ⟨fun i d e => ?_, ⟨vs, ws, hA, hB, by rw [r.length, r2.length]; exact zipL_len ds es⟩⟩
  obtain ⟨x, y, hx, hy, rfl⟩ := zipL_get ds es i d e
  obtain ⟨v, h1, h2⟩ := r.get hx
  obtain ⟨w, h3, h4⟩ := r2.get hy
  refine ⟨⟨vs, ws, v, w, hA, hB, h1, h3⟩, ?_⟩
  rintro z H'' ⟨T, p, q, rfl, hT, rfl, hp, hq⟩
  have q1 := hp vs hA
  rw [h1] at q1
  cases q1
  have q2 := hq ws hB
  rw [h3] at q2
  cases q2
  refine ⟨_, .made s2 hT, ?_⟩
  unfold Rep
  have st := s1.trans (sameUpd (o := .tup [v, w]) (s2.free hT))
  exact ⟨T, _, rfl, upd_same, .cons (Rep.mono st _ _ h2) (.cons (Rep.mono st _ _ h4) .nil)⟩
theorem it_zipT {a b : Addr} {vs ws : List V} {ds es : List D} (ha : F a = some (.tup vs)) (r : Reps K ce F ds vs) (hb : F b = some (.tup ws)) (r2 : Reps K ce F es ws) : ItOk K ce (RZ.ItzT K a b) F B (zipL ds es) := fun F' H' s1 s2 _ => by
  have hA : SqT K H' a vs := .of (s2 _ _ (s1 _ _ ha))
  have hB : SqT K H' b ws := .of (s2 _ _ (s1 _ _ hb))
  refine ⟨fun i d e => ?_, ⟨vs, ws, hA, hB, by rw [r.length, r2.length]; exact zipL_len ds es⟩⟩
  obtain ⟨x, y, hx, hy, rfl⟩ := zipL_get ds es i d e
  obtain ⟨v, h1, h2⟩ := r.get hx
  obtain ⟨w, h3, h4⟩ := r2.get hy
  refine ⟨⟨vs, ws, v, w, hA, hB, h1, h3⟩, ?_⟩
  rintro z H'' ⟨T, p, q, rfl, hT, rfl, hp, hq⟩
  have q1 := hp vs hA
  rw [h1] at q1
  cases q1
  have q2 := hq ws hB
  rw [h3] at q2
  cases q2
  refine ⟨_, .made s2 hT, ?_⟩
  unfold Rep
  have st := s1.trans (sameUpd (o := .tup [v, w]) (s2.free hT))
  exact ⟨T, _, rfl, upd_same, .cons (Rep.mono st _ _ h2) (.cons (Rep.mono st _ _ h4) .nil)⟩
theorem rev_at {vs : List V} {i : Nat} {v : V} (h : vs.reverse[i]? = some v) : i < vs.length ∧ vs[vs.length - 1 - i]? = some v := by
  have hi : i < vs.length := by
    have := (List.getElem?_eq_some_iff.mp h).1
    simpa using this
  rw [List.getElem?_reverse hi] at h
  exact ⟨hi, h⟩
theorem it_rev {a : Addr} {vs : List V} {ds : List D} (ha : F a = some (.lst vs)) (r : Reps K ce F ds vs) : ItOk K ce (Itv K a vs.length) F B ds.reverse := fun F' H' s1 s2 _ => by
  have hA : SqL K H' a vs := .of (s2 _ _ (s1 _ _ ha))
  refine ⟨fun i d e => ?_, by rw [List.length_reverse, ← r.length]; exact Nat.le_refl _⟩
  obtain ⟨v, h1, h2⟩ := r.rev.get e
  obtain ⟨hi, h3⟩ := rev_at h1
  refine ⟨⟨hi, vs, v, hA, h3⟩, ?_⟩
  rintro x H'' ⟨rfl, hx⟩
  have q := hx vs hA
  rw [h3] at q
  cases q
  exact ⟨F', .refl s2, Rep.mono s1 _ _ h2⟩
theorem it_revT {a : Addr} {vs : List V} {ds : List D} (ha : F a = some (.tup vs)) (r : Reps K ce F ds vs) : ItOk K ce (RT.ItvT K a vs.length) F B ds.reverse := fun F' H' s1 s2 _ => by
  have hA : SqT K H' a vs := .of (s2 _ _ (s1 _ _ ha))
  refine ⟨fun i d e => ?_, by rw [List.length_reverse, ← r.length]; exact Nat.le_refl _⟩
  obtain ⟨v, h1, h2⟩ := r.rev.get e
  obtain ⟨hi, h3⟩ := rev_at h1
  refine ⟨⟨hi, vs, v, hA, h3⟩, ?_⟩
  rintro x H'' ⟨rfl, hx⟩
  have q := hx vs hA
  rw [h3] at q
  cases q
  exact ⟨F', .refl s2, Rep.mono s1 _ _ h2⟩
theorem it_signs {x : Str} : ItOk K ce (Its x) F B (x.cps.toList.map fun c => D.str ⟨#[c]⟩) := fun F' H' s1 s2 _ => by
  refine ⟨fun i d e => ?_, by simp [Its]⟩
  rw [List.getElem?_map] at e
  cases q : x.cps.toList[i]? with
  | none => rw [q] at e; cases e
  | some k =>
    rw [q] at e
    cases e
    have q' : x.cps[i]? = some k := by rw [← q, Array.getElem?_toList]
    refine ⟨(Array.getElem?_eq_some_iff.mp q').1, ?_⟩
    rintro v H'' ⟨rfl, c, hc, rfl⟩
    rw [q'] at hc
    cases hc
    exact ⟨F', .refl s2, rStr _⟩

theorem noSame {H : Hp} : Same (fun _ => none) H := fun _ _ z => nomatch z
theorem DenI.c {wi : TI} {f : Slots → Res (List D)} (x : DenI K ce W wi f) : DenIc K ce W wi f := fun Γ σ F H R ev h => x Γ σ F H R ev (Res.wp_mono h (fun _ z => z) fun ds _ k J F1 H1 x1 io => k J F1 H1 x1 fun F2 H2 s1 s2 _ => io F2 H2 s1 s2 noSame)
theorem it_lstB {a : Addr} {vs : List V} {ds : List D} (ha : B a = some (.lst vs)) (r : Reps K ce F ds vs) : ItOk K ce (Itl K a) F B ds := fun F' H' s1 s2 s3 => by
  have hA : SqL K H' a vs := .of (s3 _ _ ha)
  refine ⟨fun i d e => ?_, ⟨vs, hA, by rw [r.length]; exact Nat.le_refl _⟩⟩
  obtain ⟨v, h1, h2⟩ := r.get e
  refine ⟨⟨vs, v, hA, h1⟩, ?_⟩
  rintro x H'' ⟨rfl, hx⟩
  have q := hx vs hA
  rw [h1] at q
  cases q
  exact ⟨F', .refl s2, Rep.mono s1 _ _ h2⟩
theorem it_tupB {a : Addr} {vs : List V} {ds : List D} (ha : B a = some (.tup vs)) (r : Reps K ce F ds vs) : ItOk K ce (Itt K a) F B ds := fun F' H' s1 s2 s3 => by
  have hA : SqT K H' a vs := .of (s3 _ _ ha)
  refine ⟨fun i d e => ?_, ⟨vs, hA, by rw [r.length]; exact Nat.le_refl _⟩⟩
  obtain ⟨v, h1, h2⟩ := r.get e
  refine ⟨⟨vs, v, hA, h1⟩, ?_⟩
  rintro x H'' ⟨rfl, hx⟩
  have q := hx vs hA
  rw [h1] at q
  cases q
  exact ⟨F', .refl s2, Rep.mono s1 _ _ h2⟩
theorem it_scrB {a : Addr} {ns : List Int} (ha : SqL K B a (ns.map V.int)) : ItOk K ce (Itl K a) F B (ns.map D.int) := fun F' H' s1 s2 s3 => by
  have hA : SqL K H' a (ns.map V.int) := s3.seq ha
  refine ⟨fun i d e => ?_, ⟨_, hA, by simp⟩⟩
  obtain ⟨v, h1, h2⟩ := (Reps.ints (K := K) (ce := ce) (F := F') (ns := ns)).get e
  refine ⟨⟨_, v, hA, h1⟩, ?_⟩
  rintro x H'' ⟨rfl, hx⟩
  have q := hx _ hA
  rw [h1] at q
  cases q
  exact ⟨F', .refl s2, h2⟩
theorem den_iSc (x : DenB K ce W ta f) : DenIc K ce W (iSeq K ta) (iS f) := fun Γ σ F H R ev h => by
  refine x Γ σ F H _ ev (Res.wp_mono (Res.wp_bind h) (fun _ z => z) fun d _ k v F1 H1 e1 r1 => ?_)
  unfold asSeq at k
  split at k
  · obtain ⟨a, vs, rfl, ha, hv⟩ := r1
    exact ⟨a, rfl, .inl ⟨⟨vs, .of ha⟩, k _ F1 H1 e1 (it_lstB ha hv)⟩⟩
  · obtain ⟨a, vs, rfl, ha, hv⟩ := r1
    exact ⟨a, rfl, .inr ⟨⟨vs, .of ha⟩, k _ F1 H1 e1 (it_tupB ha hv)⟩⟩
  · obtain ⟨a, rfl, ha⟩ := r1
    exact ⟨a, rfl, .inl ⟨⟨_, ha⟩, k _ F1 H1 e1 (it_scrB ha)⟩⟩
  · exact k.elim
theorem den_iS (x : DenV K ce W ta f) : DenI K ce W (iSeq K ta) (iS f) := fun Γ σ F H R ev h => by
  refine x Γ σ F H _ ev (Res.wp_mono (Res.wp_bind h) (fun _ z => z) fun d _ k v F1 H1 e1 r1 => ?_)
  unfold asSeq at k
  split at k
  · unfold Rep at r1
    obtain ⟨a, vs, rfl, ha, hv⟩ := r1
    exact ⟨a, rfl, .inl ⟨⟨vs, .of (e1.sub _ _ ha)⟩, k _ F1 H1 e1 (it_lst ha hv)⟩⟩
  · unfold Rep at r1
    obtain ⟨a, vs, rfl, ha, hv⟩ := r1
    exact ⟨a, rfl, .inr ⟨⟨vs, .of (e1.sub _ _ ha)⟩, k _ F1 H1 e1 (it_tup ha hv)⟩⟩
  · unfold Rep at r1
    obtain ⟨a, rfl, ha⟩ := r1
    exact ⟨a, rfl, .inl ⟨⟨_, e1.sub.seq ha⟩, k _ F1 H1 e1 (it_scr ha)⟩⟩
  · exact k.elim
theorem den_iR1 (x : DenA K ce W tA fs) : DenI K ce W (iRng1 tA) (iN asR1 fs) := fun Γ σ F H R ev h => by
  refine x Γ σ F H _ ev (Res.wp_mono (Res.wp_bind h) (fun _ z => z) fun ds _ k vs F1 H1 e1 r1 => ?_)
  unfold asR1 at k
  split at k
  · split at k
    · rename_i hb
      obtain ⟨v, rfl, h1⟩ := br1 r1
      cases h1
      exact ⟨_, rfl, hb.1, hb.2, k _ F1 H1 e1 it_rg⟩
    · exact k.elim
  · exact k.elim
theorem den_iR2 (x : DenA K ce W tA fs) : DenI K ce W (iRng2 tA) (iN asR2 fs) := fun Γ σ F H R ev h => by
  refine x Γ σ F H _ ev (Res.wp_mono (Res.wp_bind h) (fun _ z => z) fun ds _ k vs F1 H1 e1 r1 => ?_)
  unfold asR2 at k
  split at k
  · split at k
    · rename_i hb
      obtain ⟨v, w, rfl, h1, h2⟩ := br2 r1
      cases h1; cases h2
      exact ⟨_, _, rfl, hb, k _ F1 H1 e1 it_rg⟩
    · exact k.elim
  · exact k.elim
theorem den_iR3 (x : DenA K ce W tA fs) : DenI K ce W (iRng3 tA) (iN asR3 fs) := fun Γ σ F H R ev h => by
  refine x Γ σ F H _ ev (Res.wp_mono (Res.wp_bind h) (fun _ z => z) fun ds _ k vs F1 H1 e1 r1 => ?_)
  unfold asR3 at k
  split at k
  · split at k
    · rename_i hb
      obtain ⟨v, r, rfl, h1, h2⟩ := r1
      obtain ⟨w, u, rfl, h2, h3⟩ := br2 h2
      cases h1; cases h2; cases h3
      obtain ⟨rfl, b1, b2, b3, b4⟩ := hb
      exact ⟨_, _, _, _, rfl, .neg b1 b2 b3 b4, k _ F1 H1 e1 it_rgc⟩
    · exact k.elim
  · exact k.elim
theorem den_iEn (x : DenAV K ce W tA fs) : DenI K ce W (iEnum K tA) (iN asEnum fs) := fun Γ σ F H R ev h => by
  refine x Γ σ F H _ ev (Res.wp_mono (Res.wp_bind h) (fun _ z => z) fun ds _ k vs F1 H1 e1 q1 => ?_)
  unfold asEnum at k
  split at k
  · obtain ⟨v, rfl, h1⟩ := r1 q1
    unfold Rep at h1
    obtain ⟨a, vs, rfl, ha, hv⟩ := h1
    exact ⟨a, vs, rfl, .of (e1.sub _ _ ha), k _ F1 H1 e1 (it_enum ha hv)⟩
  · exact k.elim
theorem r2 {d e : D} {xs : List V} (h : Reps K ce F [d, e] xs) : ∃ v w, xs = [v, w] ∧ Rep K ce F d v ∧ Rep K ce F e w := by
  unfold Reps at h
  obtain ⟨v, r, rfl, h1, h2⟩ := h
  obtain ⟨w, rfl, h3⟩ := r1 h2
  exact ⟨v, w, rfl, h1, h3⟩
theorem den_iZ (x : DenAV K ce W tA fs) : DenI K ce W (RZ.iZipA K tA) (iN asZip fs) := fun Γ σ F H R ev h => by
  refine x Γ σ F H _ ev (Res.wp_mono (Res.wp_bind h) (fun _ z => z) fun ds _ k vs F1 H1 e1 q1 => ?_)
  unfold asZip at k
  split at k
  · obtain ⟨v, w, rfl, h1, h2⟩ := r2 q1
    unfold Rep at h1 h2
    obtain ⟨a, vs, rfl, ha, hv⟩ := h1
    obtain ⟨b, ws, rfl, hb, hw⟩ := h2
    exact ⟨a, b, vs, ws, rfl, .inl ⟨.of (e1.sub _ _ ha), .of (e1.sub _ _ hb), k _ F1 H1 e1 (it_zip ha hv hb hw)⟩⟩
  · obtain ⟨v, w, rfl, h1, h2⟩ := r2 q1
    unfold Rep at h1 h2
    obtain ⟨a, vs, rfl, ha, hv⟩ := h1
    obtain ⟨b, ws, rfl, hb, hw⟩ := h2
    exact ⟨a, b, vs, ws, rfl, .inr ⟨.of (e1.sub _ _ ha), .of (e1.sub _ _ hb), k _ F1 H1 e1 (it_zipT ha hv hb hw)⟩⟩
  · exact k.elim
theorem den_iRev (x : DenV K ce W ta f) : DenI K ce W (RT.iRevA K ta) (fun Γ => (f Γ).bind asRev) := fun Γ σ F H R ev h => by
  refine x Γ σ F H _ ev (Res.wp_mono (Res.wp_bind h) (fun _ z => z) fun d _ k v F1 H1 e1 q1 => ?_)
  unfold asRev at k
  split at k
  · unfold Rep at q1
    obtain ⟨a, vs, rfl, ha, hv⟩ := q1
    exact ⟨a, vs, rfl, .inl ⟨.of (e1.sub _ _ ha), k _ F1 H1 e1 (it_rev ha hv)⟩⟩
  · unfold Rep at q1
    obtain ⟨a, vs, rfl, ha, hv⟩ := q1
    exact ⟨a, vs, rfl, .inr ⟨.of (e1.sub _ _ ha), k _ F1 H1 e1 (it_revT ha hv)⟩⟩
  · exact k.elim
theorem den_iStr (x : DenB K ce W ta f) : DenI K ce W (iStr ta) (fun Γ => (f Γ).bind asSigns) := fun Γ σ F H R ev h => by
  refine x Γ σ F H _ ev (Res.wp_mono (Res.wp_bind h) (fun _ z => z) fun d _ k v F1 H1 e1 q1 => ?_)
  unfold asSigns at k
  split at k
  · cases q1
    exact ⟨_, rfl, k _ F1 H1 e1 it_signs⟩
  · exact k.elim
end

/-! ### targets -/
abbrev GFn := D → Slots → Res Slots
def gN (i : Nat) : GFn := fun d Γ => if i < Γ.length then .ok (Γ.set i (.val d)) else .stuck
abbrev GFs := List D → Slots → Res Slots
def gsN : GFs := fun ds Γ => match ds with
  | [] => .ok Γ
  | _ => .stuck
def gsC (h : GFn) (k : GFs) : GFs := fun ds Γ => match ds with
  | d :: r => (h d Γ).bind fun Γ' => k r Γ'
  | [] => .stuck
def gT (n : Nat) (k : GFs) : GFn := fun d Γ => match d with
  | .tup ds => if ds.length = n then k ds Γ else .stuck
  | _ => .stuck
/-- the slots at is hold new values, the others are as they were -/
structure Upd (is : List Nat) (Γ Γ' : Slots) (σ σ' : L2.St) : Prop where
  lG : Γ'.length = Γ.length
  lS : σ'.length = σ.length
  at_ : ∀ j : Nat, (j ∈ is ∧ ∃ d, Γ'[j]? = some (.val d)) ∨ (Γ'[j]? = Γ[j]? ∧ σ'[j]? = σ[j]?)
theorem Upd.refl {is : List Nat} {Γ : Slots} {σ : L2.St} : Upd is Γ Γ σ σ := ⟨rfl, rfl, fun j => .inr ⟨rfl, rfl⟩⟩
theorem Upd.trans {is : List Nat} {Γ Γ1 Γ2 : Slots} {σ σ1 σ2 : L2.St} (a : Upd is Γ Γ1 σ σ1) (b : Upd is Γ1 Γ2 σ1 σ2) : Upd is Γ Γ2 σ σ2 := ⟨b.lG.trans a.lG, b.lS.trans a.lS, fun j => by
  rcases b.at_ j with h | ⟨h1, h2⟩
  · exact .inl h
  · rcases a.at_ j with ⟨h, d, h3⟩ | ⟨h3, h4⟩
    · exact .inl ⟨h, d, by rw [h1]; exact h3⟩
    · exact .inr ⟨h1.trans h3, h2.trans h4⟩⟩
def DenG (K : PySem.W.Frag) (ce : CE) (is : List Nat) (g : TG) (h : GFn) : Prop := ∀ (Γ : Slots) (σ : L2.St) (F H : Hp) (v : V) (d : D) (Q : L2.St → Hp → Prop), Ev K ce Γ σ F H → Rep K ce F d v →
  (h d Γ).wp (fun _ => False) (fun Γ' => ∀ σ', Ev K ce Γ' σ' F H → Upd is Γ Γ' σ σ' → Q σ' H) → g v σ H Q
def DenGs (K : PySem.W.Frag) (ce : CE) (is : List Nat) (g : TGs) (h : GFs) : Prop := ∀ (Γ : Slots) (σ : L2.St) (F H : Hp) (vs : List V) (ds : List D) (Q : L2.St → Hp → Prop), Ev K ce Γ σ F H → Reps K ce F ds vs →
  (h ds Γ).wp (fun _ => False) (fun Γ' => ∀ σ', Ev K ce Γ' σ' F H → Upd is Γ Γ' σ σ' → Q σ' H) → g vs σ H Q
section
variable {K : PySem.W.Frag} {ce : CE} {W : Wish} {F H : Hp} {is : List Nat}
theorem Ev.set {Γ : Slots} {σ : L2.St} {i : Nat} {c : Cel} {v : V} (ev : Ev K ce Γ σ F H) (h : CelOk K ce F H c (some (some v))) : Ev K ce (Γ.set i c) (σ.set i (some v)) F H := by
  refine ⟨ev.sub, fun j c' e => ?_, by rw [List.length_set, List.length_set]; exact ev.len⟩
  by_cases hj : i = j
  · subst hj
    by_cases hi : i < Γ.length
    · rw [List.getElem?_set_self hi] at e
      cases e
      rw [List.getElem?_set_self (by rw [← ev.len]; exact hi)]
      exact h
    · rw [List.getElem?_eq_none (by simpa using hi)] at e
      cases e
  · rw [List.getElem?_set_ne hj] at e ⊢
    exact ev.cells j c' e
theorem Upd.set {Γ : Slots} {σ : L2.St} {i : Nat} {d : D} {v : V} (hi : i ∈ is) (hl : i < Γ.length) : Upd is Γ (Γ.set i (.val d)) σ (σ.set i (some v)) := by
  refine ⟨List.length_set, List.length_set, fun j => ?_⟩
  by_cases hj : i = j
  · subst hj
    exact .inl ⟨hi, d, List.getElem?_set_self hl⟩
  · exact .inr ⟨List.getElem?_set_ne hj, List.getElem?_set_ne hj⟩
theorem dg_name (i : Nat) (hi : i ∈ is := by decide) : DenG K ce is (gName i) (gN i) := fun Γ σ F H v d Q ev r h => by
  unfold gN at h
  split at h
  · rename_i hl
    exact h _ (ev.set ⟨v, rfl, r⟩) (.set hi hl)
  · exact h.elim
theorem dgs_nil : DenGs K ce is gNil gsN := fun Γ σ F H vs ds Q ev r h => by
  unfold gsN at h
  split at h
  · unfold Reps at r
    exact ⟨r, h σ ev .refl⟩
  · exact h.elim
theorem dgs_cons {g : TG} {gs : TGs} {h : GFn} {k : GFs} (x : DenG K ce is g h) (y : DenGs K ce is gs k) : DenGs K ce is (gCons g gs) (gsC h k) := fun Γ σ F H vs ds Q ev r hh => by
  unfold gsC at hh
  split at hh
  · unfold Reps at r
    obtain ⟨v, r', rfl, h1, h2⟩ := r
    refine ⟨v, r', rfl, x Γ σ F H v _ _ ev h1 (Res.wp_mono (Res.wp_bind hh) (fun _ z => z) fun Γ1 _ k1 σ1 ev1 u1 => ?_)⟩
    exact y Γ1 σ1 F H r' _ Q ev1 h2 (Res.wp_mono k1 (fun _ z => z) fun Γ2 _ k2 σ2 ev2 u2 => k2 σ2 ev2 (u1.trans u2))
  · exact hh.elim
theorem dg_tup {n : Nat} {gs : TGs} {k : GFs} (y : DenGs K ce is gs k) : DenG K ce is (gTup K n gs) (gT n k) := fun Γ σ F H v d Q ev r h => by
  unfold gT at h
  split at h
  · split at h
    · rename_i hn
      unfold Rep at r
      obtain ⟨a, vs, rfl, ha, hv⟩ := r
      exact ⟨a, vs, rfl, .of (ev.sub _ _ ha), by rw [hv.length]; exact hn, y Γ σ F H vs _ Q ev hv h⟩
    · exact h.elim
  · exact h.elim
end

/-! ### comprehensions -/
def toO {α : Type} : Res α → Option α
  | .ok a => some a
  | _ => none
theorem toO_some {α : Type} {r : Res α} {a : α} (h : toO r = some a) : r = .ok a := by
  cases r with
  | ok b => cases h; rfl
  | _ => cases h
def wipeG (Γ : Slots) : List Nat → Slots
  | [] => Γ
  | v :: vs => (wipeG Γ vs).set v .no
def lcD (h : GFn) (p : Slots → Res Bool) (f : EFn) (Γ : Slots) : List D → Option (List D)
  | [] => some []
  | d :: r => (toO (h d Γ)).bind fun Γ1 => (toO (p Γ1)).bind fun b => if b = true then (toO (f Γ1)).bind fun y => (lcD h p f Γ r).map (y :: ·) else lcD h p f Γ r
def eLc (vs : List Nat) (its : Slots → Res (List D)) (h : GFn) (p : Slots → Res Bool) (f : EFn) : EFn := fun Γ => (its Γ).bind fun ds => if ds.length ≤ sizeLine then (match lcD h p f (wipeG Γ vs) ds with
  | some ys => .ok (.lst ys)
  | none => .stuck) else .stuck
def nYes : Slots → Res Bool := fun _ => .ok true
/-- a dict of whole numbers or texts, filled -/
def dcPut : D → D → D → Option D
  | .dI kvs, .int k, v => some (.dI (putD kvs k v))
  | .dS kvs, .str k, v => some (.dS (putD kvs k v))
  | _, _, _ => none
def dcD (h : GFn) (p : Slots → Res Bool) (f g : EFn) (Γ : Slots) : D → List D → Option D
  | acc, [] => some acc
  | acc, d :: r => (toO (h d Γ)).bind fun Γ1 => (toO (p Γ1)).bind fun b => if b = true then (toO (f Γ1)).bind fun k => (toO (g Γ1)).bind fun v => (dcPut acc k v).bind fun acc' => dcD h p f g Γ acc' r else dcD h p f g Γ acc r
def eDc (z : D) (vs : List Nat) (its : Slots → Res (List D)) (h : GFn) (p : Slots → Res Bool) (f g : EFn) : EFn := fun Γ => (its Γ).bind fun ds => if ds.length ≤ sizeLine then (match dcD h p f g (wipeG Γ vs) z ds with
  | some d => .ok d
  | none => .stuck) else .stuck
section
variable {K : PySem.W.Frag} {ce : CE} {W : Wish} {F H : Hp}
theorem wipeG_len (Γ : Slots) : ∀ vs : List Nat, (wipeG Γ vs).length = Γ.length
  | [] => rfl
  | v :: vs => by unfold wipeG; rw [List.length_set, wipeG_len Γ vs]
theorem wipeG_get {Γ : Slots} {i : Nat} {c : Cel} : ∀ {vs : List Nat}, (wipeG Γ vs)[i]? = some c → c = .no ∨ (Γ[i]? = some c ∧ i ∉ vs)
  | [], h => .inr ⟨h, by simp⟩
  | v :: vs, h => by
    unfold wipeG at h
    by_cases hi : v = i
    · subst hi
      by_cases hl : v < (wipeG Γ vs).length
      · rw [List.getElem?_set_self hl] at h
        cases h
        exact .inl rfl
      · rw [List.getElem?_eq_none (by simpa using hl)] at h
        cases h
    · rw [List.getElem?_set_ne hi] at h
      rcases wipeG_get h with e | ⟨e1, e2⟩
      · exact .inl e
      · exact .inr ⟨e1, by simp only [List.mem_cons, not_or]; exact ⟨fun z => hi z.symm, e2⟩⟩
theorem Ev.wipe {Γ : Slots} {σ : L2.St} (ev : Ev K ce Γ σ F H) (vs : List Nat) : Ev K ce (wipeG Γ vs) (wipe σ vs) F H := by
  refine ⟨ev.sub, fun i c e => ?_, by rw [wipeG_len, wipe_length]; exact ev.len⟩
  rcases wipeG_get e with rfl | ⟨e1, e2⟩
  · trivial
  · rw [wipe_out e2]
    exact ev.cells i c e1
theorem wipe_in {σ : L2.St} {i : Nat} : ∀ {vs : List Nat}, i ∈ vs → (wipe σ vs)[i]? = if i < σ.length then some none else none
  | v :: vs, h => by
    unfold wipe
    by_cases hi : v = i
    · subst hi
      by_cases hl : v < σ.length
      · rw [List.getElem?_set_self (by rw [wipe_length]; exact hl), if_pos hl]
      · rw [List.getElem?_eq_none (by rw [List.length_set, wipe_length]; omega), if_neg hl]
    · rw [List.getElem?_set_ne hi]
      exact wipe_in ((List.mem_cons.mp h).resolve_left fun e => hi e.symm)
theorem wipe_eq {σ σ' : L2.St} {vs : List Nat} {Γ Γ' : Slots} (u : Upd vs Γ Γ' (wipe σ vs) σ') : wipe σ' vs = wipe σ vs := by
  have hl : σ'.length = σ.length := by rw [u.lS, wipe_length]
  refine List.ext_getElem? fun i => ?_
  by_cases hi : i ∈ vs
  · rw [wipe_in hi, wipe_in hi, hl]
  · rw [wipe_out hi]
    rcases u.at_ i with ⟨h, _⟩ | ⟨_, h⟩
    · exact (hi h).elim
    · exact h
theorem den_tYes : DenT K ce W tYes nYes := fun Γ σ F H Q ev h => h F H (.refl ev.sub)
theorem den_lc {wi : TI} {g : TG} {tt : TT} {te : TE} {vs : List Nat} {its : Slots → Res (List D)} {h : GFn} {p : Slots → Res Bool} {f : EFn} (hi : DenIc K ce W wi its) (hg : DenG K ce vs g h) (ht : DenT K ce .none tt p) (he : DenV K ce .none te f) :
    DenF K ce W (tLc wi g tt te vs) (eLc vs its h p f) := fun Γ σ F H Q ev hh => by
  refine hi Γ σ F H _ ev (Res.wp_mono (Res.wp_bind hh) (fun _ z => z) fun ds _ k J F1 H1 x1 io => ?_)
  split at k
  rotate_left
  · exact k.elim
  rename_i hz
  split at k
  rotate_left
  · exact k.elim
  rename_i out hout
  intro D hD
  have x0 := x1.trans (Ext.laid (o := .lst []) x1.sub hD)
  refine ⟨fun i m H' => ∃ F' acc rest av, m = ds.length - i ∧ i ≤ ds.length ∧ Ext F1 H1 F' H' ∧ F' D = none ∧ H' D = some (.lst av) ∧ Reps K ce F' acc av ∧ acc.length ≤ i ∧ lcD h p f (wipeG Γ vs) (ds.drop i) = some rest ∧ acc ++ rest = out,
    ⟨ds.length, F1, [], out, [], by simp, Nat.zero_le _, .laid x1.sub hD, x1.sub.free hD, upd_same, .nil, Nat.le_refl _, by rw [List.drop_zero]; exact hout, rfl⟩, ?_⟩
  rintro i m H' ⟨F', acc, rest, av, rfl, hi', x, hFD, hHD, ra, hal, hr, he'⟩
  obtain ⟨go, stop⟩ := io F' H' x.sF x.sub x.sH
  by_cases hlt : i < ds.length
  · have ed : ds[i]? = some ds[i] := List.getElem?_eq_getElem hlt
    obtain ⟨g1, g2⟩ := go i _ ed
    rw [List.drop_eq_getElem_cons hlt] at hr
    unfold lcD at hr
    refine .inr ⟨g1, fun H2 => ∃ F' acc rest av, i + 1 ≤ ds.length ∧ Ext F1 H1 F' H2 ∧ F' D = none ∧ H2 D = some (.lst av) ∧ Reps K ce F' acc av ∧ acc.length ≤ i + 1 ∧ lcD h p f (wipeG Γ vs) (ds.drop (i + 1)) = some rest ∧ acc ++ rest = out, ?_, fun v H2 hy => ?_⟩
    · rintro H2 ⟨F2, acc, rest, av, h1, h2, h3, h4, h5, h6, h7, h8⟩
      exact ⟨_, (by omega : ds.length - (i + 1) < ds.length - i), F2, acc, rest, av, rfl, h1, h2, h3, h4, h5, h6, h7, h8⟩
    · obtain ⟨F2, y2, rd⟩ := g2 v H2 hy
      cases q1 : toO (h ds[i] (wipeG Γ vs)) with
      | none => rw [q1] at hr; cases hr
      | some Γ1 =>
        rw [q1] at hr
        simp only [Option.bind_some] at hr
        refine hg (wipeG Γ vs) (wipe σ vs) F2 H2 v _ _ (((ev.ext x1).ext (x.trans y2)).wipe vs) rd ?_
        rw [toO_some q1]
        refine fun σ1 ev1 u1 => ⟨wipe_eq u1, ?_⟩
        cases q2 : toO (p Γ1) with
        | none => rw [q2] at hr; cases hr
        | some b =>
          rw [q2] at hr
          simp only [Option.bind_some] at hr
          refine ht Γ1 σ1 F2 H2 _ ev1 ?_
          rw [toO_some q2]
          refine fun F3 H3 y3 => ?_
          have y23 := y2.trans y3
          have keepD : ∀ {Fa Ha : Hp}, Ext F' H' Fa Ha → Fa D = none ∧ Ha D = some (.lst av) := fun {Fa Ha} z => by
            refine ⟨?_, z.sH _ _ hHD⟩
            cases q : Fa D with
            | none => rfl
            | some o =>
              have := z.new D hFD (by rw [q]; exact fun z => nomatch z)
              rw [hHD] at this; cases this
          cases b with
          | false =>
            rw [if_neg Bool.false_ne_true] at hr ⊢
            obtain ⟨k1, k2⟩ := keepD y23
            exact ⟨F3, acc, rest, av, hlt, x.trans y23, k1, k2, Reps.mono y23.sF _ _ ra, by omega, hr, he'⟩
          | true =>
            rw [if_pos rfl] at hr ⊢
            cases q3 : toO (f Γ1) with
            | none => rw [q3] at hr; cases hr
            | some y =>
              rw [q3] at hr
              simp only [Option.bind_some] at hr
              refine he Γ1 σ1 F3 H3 _ (ev1.ext y3) ?_
              rw [toO_some q3]
              refine fun w F4 H4 y4 rw_ => ?_
              have y24 := y23.trans y4
              obtain ⟨k1, k2⟩ := keepD y24
              have hal' : av.length < sizeLine := by rw [ra.length]; omega
              refine ⟨av, k2, hal', ?_⟩
              cases q4 : lcD h p f (wipeG Γ vs) (ds.drop (i + 1)) with
              | none => rw [q4] at hr; cases hr
              | some rest' =>
                rw [q4] at hr
                simp only [Option.map_some, Option.some.injEq] at hr
                subst hr
                have xx := x.trans y24
                refine ⟨F4, acc ++ [y], rest', av ++ [w], hlt, ⟨xx.sF, fun b o e => ?_, fun b o e => ?_, xx.new⟩, k1, upd_same, (Reps.mono y24.sF _ _ ra).app (.cons rw_ .nil), by rw [List.length_append, List.length_singleton]; omega, rfl, by rw [List.append_assoc]; exact he'⟩
                · rw [upd_ne (ne_of_none e hD)]
                  exact xx.sH _ _ e
                · rw [upd_ne (ne_of_none e k1)]
                  exact xx.sub _ _ e
  · have e : i = ds.length := by omega
    subst e
    rw [List.drop_length] at hr
    cases hr
    rw [List.append_nil] at he'
    subst he'
    exact .inl ⟨stop, k D _ F' H' (x1.trans x) hFD (x1.sH.free hD) hHD ⟨av, rfl, ra⟩⟩
end
end FL

/-! FL6: dict comprehensions; statements. -/
namespace FL
open PySem PySem.Spec PyProof.Rows L2

section
variable {K : PySem.W.Frag} {ce : CE} {W : Wish} {F H : Hp}
theorem dcPut_ok {a : Addr} {acc k v acc' : D} {l : List (Key × V)} {y z : V} (e : dcPut acc k v = some acc') (ha : ObjRep K ce F a acc (.dK l)) (hk : BRep K ce F H k y) (hv : Rep K ce F v z) : ∃ kk, y = kV kk ∧ ObjRep K ce F a acc' (.dK (putK l kk z)) := by
  cases acc
  case dI kvs =>
    cases k
    case int i =>
      cases e
      cases hk
      obtain ⟨l', e', h⟩ := ha
      cases e'
      exact ⟨Sum.inl i, rfl, _, rfl, repsI_iff.mpr ((repsI_iff.mp h).put (fun a b => Sum.inl.inj) hv i)⟩
    all_goals cases e
  case dS kvs =>
    cases k
    case str i =>
      cases e
      cases hk
      obtain ⟨l', e', h⟩ := ha
      cases e'
      exact ⟨Sum.inr i, rfl, _, rfl, repsS_iff.mpr ((repsS_iff.mp h).put (fun a b => Sum.inr.inj) hv i)⟩
    all_goals cases e
  all_goals cases e
theorem den_dc {wi : TI} {g : TG} {tt : TT} {tk tv : TE} {vs : List Nat} {its : Slots → Res (List D)} {h : GFn} {p : Slots → Res Bool} {fk f : EFn} {z : D} (hz0 : z = .dI [] ∨ z = .dS []) (hi : DenIc K ce W wi its) (hg : DenG K ce vs g h) (ht : DenT K ce .none tt p) (hk : DenB K ce .none tk fk) (he : DenV K ce .none tv f) :
    DenF K ce W (tDc wi g tt tk tv vs) (eDc z vs its h p fk f) := fun Γ σ F H Q ev hh => by
  refine hi Γ σ F H _ ev (Res.wp_mono (Res.wp_bind hh) (fun _ z => z) fun ds _ k J F1 H1 x1 io => ?_)
  split at k
  rotate_left
  · exact k.elim
  rename_i hz
  split at k
  rotate_left
  · exact k.elim
  rename_i out hout
  intro D hD
  have z0 : ∀ G, ObjRep K ce G D z (.dK []) := fun G => by
    rcases hz0 with rfl | rfl
    · exact ⟨[], rfl, by unfold RepsI; rfl⟩
    · exact ⟨[], rfl, by unfold RepsS; rfl⟩
  refine ⟨fun i m H' => ∃ F' acc l, m = ds.length - i ∧ i ≤ ds.length ∧ Ext F1 H1 F' H' ∧ F' D = none ∧ H' D = some (.dK l) ∧ ObjRep K ce F' D acc (.dK l) ∧ l.length ≤ i ∧ dcD h p fk f (wipeG Γ vs) acc (ds.drop i) = some out,
    ⟨ds.length, F1, z, [], by simp, Nat.zero_le _, .laid x1.sub hD, x1.sub.free hD, upd_same, z0 _, Nat.le_refl _, by rw [List.drop_zero]; exact hout⟩, ?_⟩
  rintro i m H' ⟨F', acc, l, rfl, hi', x, hFD, hHD, ra, hal, hr⟩
  obtain ⟨go, stop⟩ := io F' H' x.sF x.sub x.sH
  by_cases hlt : i < ds.length
  · have ed : ds[i]? = some ds[i] := List.getElem?_eq_getElem hlt
    obtain ⟨g1, g2⟩ := go i _ ed
    rw [List.drop_eq_getElem_cons hlt] at hr
    unfold dcD at hr
    refine .inr ⟨g1, fun H2 => ∃ F' acc l, i + 1 ≤ ds.length ∧ Ext F1 H1 F' H2 ∧ F' D = none ∧ H2 D = some (.dK l) ∧ ObjRep K ce F' D acc (.dK l) ∧ l.length ≤ i + 1 ∧ dcD h p fk f (wipeG Γ vs) acc (ds.drop (i + 1)) = some out, ?_, fun v H2 hy => ?_⟩
    · rintro H2 ⟨F2, acc, l, h1, h2, h3, h4, h5, h6, h7⟩
      exact ⟨_, (by omega : ds.length - (i + 1) < ds.length - i), F2, acc, l, rfl, h1, h2, h3, h4, h5, h6, h7⟩
    · obtain ⟨F2, y2, rd⟩ := g2 v H2 hy
      cases q1 : toO (h ds[i] (wipeG Γ vs)) with
      | none => rw [q1] at hr; cases hr
      | some Γ1 =>
        rw [q1] at hr
        simp only [Option.bind_some] at hr
        refine hg (wipeG Γ vs) (wipe σ vs) F2 H2 v _ _ (((ev.ext x1).ext (x.trans y2)).wipe vs) rd ?_
        rw [toO_some q1]
        refine fun σ1 ev1 u1 => ⟨wipe_eq u1, ?_⟩
        cases q2 : toO (p Γ1) with
        | none => rw [q2] at hr; cases hr
        | some b =>
          rw [q2] at hr
          simp only [Option.bind_some] at hr
          refine ht Γ1 σ1 F2 H2 _ ev1 ?_
          rw [toO_some q2]
          refine fun F3 H3 y3 => ?_
          have y23 := y2.trans y3
          have keepD : ∀ {Fa Ha : Hp}, Ext F' H' Fa Ha → Fa D = none ∧ Ha D = some (.dK l) := fun {Fa Ha} z => by
            refine ⟨?_, z.sH _ _ hHD⟩
            cases q : Fa D with
            | none => rfl
            | some o =>
              have := z.new D hFD (by rw [q]; exact fun z => nomatch z)
              rw [hHD] at this; cases this
          cases b with
          | false =>
            rw [if_neg Bool.false_ne_true] at hr ⊢
            obtain ⟨k1, k2⟩ := keepD y23
            exact ⟨F3, acc, l, hlt, x.trans y23, k1, k2, ObjRep.mono y23.sF _ _ ra, by omega, hr⟩
          | true =>
            rw [if_pos rfl] at hr ⊢
            cases q3 : toO (fk Γ1) with
            | none => rw [q3] at hr; cases hr
            | some kd =>
              rw [q3] at hr
              simp only [Option.bind_some] at hr
              refine hk Γ1 σ1 F3 H3 _ (ev1.ext y3) ?_
              rw [toO_some q3]
              refine fun wk F4 H4 y4 rk => ?_
              cases q4 : toO (f Γ1) with
              | none => rw [q4] at hr; cases hr
              | some vd =>
                rw [q4] at hr
                simp only [Option.bind_some] at hr
                refine he Γ1 σ1 F4 H4 _ ((ev1.ext y3).ext y4) ?_
                rw [toO_some q4]
                refine fun wv F5 H5 y5 rv => ?_
                have y25 := (y23.trans y4).trans y5
                obtain ⟨k1, k2⟩ := keepD y25
                cases q5 : dcPut acc kd vd with
                | none => rw [q5] at hr; cases hr
                | some acc' =>
                  rw [q5] at hr
                  simp only [Option.bind_some] at hr
                  obtain ⟨kk, hkk, hob⟩ := dcPut_ok q5 (ObjRep.mono y25.sF _ _ ra) (BRep.mono y5.sF y5.sH _ _ rk) rv
                  have xx := x.trans y25
                  refine ⟨l, kk, hkk, k2, by omega, F5, acc', _, hlt, ⟨xx.sF, fun b o e => ?_, fun b o e => ?_, xx.new⟩, k1, upd_same, hob, Nat.le_trans (length_putK _ _ _) (by omega), hr⟩
                  · rw [upd_ne (ne_of_none e hD)]
                    exact xx.sH _ _ e
                  · rw [upd_ne (ne_of_none e k1)]
                    exact xx.sub _ _ e
  · have e : i = ds.length := by omega
    subst e
    rw [List.drop_length] at hr
    cases hr
    exact .inl ⟨stop, k D _ F' H' (x1.trans x) hFD (x1.sH.free hD) hHD ra⟩
end

/-! ### statements -/
/-- a list of new values for slots: each frozen or a new object -/
def CelsOk (K : PySem.W.Frag) (ce : CE) (H0 F H : Hp) : List Cel → List V → Prop
  | [], vs => vs = []
  | c :: cs, vs => ∃ v r, vs = v :: r ∧ CelOk K ce F H c (some (some v)) ∧ (match c with
      | .val _ => True
      | .own _ => ∃ a, v = .ref a ∧ H0 a = none ∧ ∀ (j : Nat) (e : D), cs[j]? = some (.own e) → r[j]? ≠ some (.ref a)
      | _ => False) ∧ CelsOk K ce H0 F H cs r
inductive Out where
  | nx (Γ : Slots)
  | bk (Γ : Slots)
  | ct (Γ : Slots)
  | rt (d : D)
  | ro (d : D)
  | exc (e : Exn)
  | stuck
  | rc (cs : List Cel)
abbrev SFn := Slots → Out
/-- the state of a def's body: H0, F0 at its entry -/
structure Sta (K : PySem.W.Frag) (ce : CE) (z : Option Nat) (s0 : Option (Option V)) (H0 F0 : Hp) (Γ : Slots) (σ : L2.St) (F H : Hp) : Prop where
  ev : Ev K ce Γ σ F H
  x : Ext F0 H0 F H
  own : ∀ (i : Nat) (d : D) (a : Addr), Γ[i]? = some (.own d) → σ[i]? = some (some (.ref a)) → H0 a = none
  sep : ∀ (i j : Nat) (d e : D) (a : Addr), i ≠ j → Γ[i]? = some (.own d) → Γ[j]? = some (.own e) → σ[i]? = some (some (.ref a)) → σ[j]? = some (some (.ref a)) → False
  bor : ∀ (i : Nat) (d : D), Γ[i]? = some (.bor d) → ∃ v, σ[i]? = some (some v) ∧ BRep K ce F0 H0 d v
  slf : ∀ k, z = some k → σ[k]? = s0
def OutOk (K : PySem.W.Frag) (ce : CE) (W : Wish) (z : Option Nat) (s0 : Option (Option V)) (H0 F0 F : Hp) (D : Ends) : Out → Prop
  | .nx Γ => ∀ σ F' H, Sta K ce z s0 H0 F0 Γ σ F' H → Same F F' → D.nx σ H
  | .bk Γ => ∀ σ F' H, Sta K ce z s0 H0 F0 Γ σ F' H → Same F F' → D.bk σ H
  | .ct Γ => ∀ σ F' H, Sta K ce z s0 H0 F0 Γ σ F' H → Same F F' → D.ct σ H
  | .rt d => ∀ v F' H, Ext F0 H0 F' H → Rep K ce F' d v → D.rt v H
  | .ro d => ∀ a o F' H, Ext F0 H0 F' H → F' a = none → H0 a = none → H a = some o → ObjRep K ce F' a d o → D.rt (.ref a) H
  | .exc e => W.W H0 e
  | .stuck => False
  | .rc cs => ∀ a vs F' H, Ext F0 H0 F' H → F' a = none → H0 a = none → H a = some (.tup vs) → CelsOk K ce H0 F' H cs vs → D.rt (.ref a) H
def DenS (K : PySem.W.Frag) (ce : CE) (W : Wish) (z : Option Nat) (t : TS) (g : SFn) : Prop := ∀ (s0 : Option (Option V)) (H0 F0 : Hp) (Γ : Slots) (σ : L2.St) (F H : Hp) (D : Ends), Sta K ce z s0 H0 F0 Γ σ F H → OutOk K ce W z s0 H0 F0 F D (g Γ) → t D σ H

/-- from an expression's answer on -/
def thenR {α : Type} (r : Res α) (f : α → Out) : Out := match r with
  | .ok a => f a
  | .exc e => .exc e
  | .stuck => .stuck
/-- from a target's answer on -/
def thenG (r : Res Slots) (f : Slots → Out) : Out := match r with
  | .ok a => f a
  | _ => .stuck
/-- a parameter, lent or not -/
def eP (i : Nat) : EFn := fun Γ => match Γ[i]? with
  | some (.val d) => .ok d
  | some (.bor d) => .ok d
  | _ => .stuck
def sNx : SFn := fun Γ => .nx Γ
def sSeq (g h : SFn) : SFn := fun Γ => match g Γ with
  | .nx Γ' => h Γ'
  | o => o
def sVal (i : Nat) (f : EFn) : SFn := fun Γ => thenR (f Γ) fun d => .nx (Γ.set i (.val d))
def sOwn (i : Nat) (f : EFn) : SFn := fun Γ => thenR (f Γ) fun d => .nx (Γ.set i (.own d))
def sAsg (f : EFn) (h : GFn) : SFn := fun Γ => thenR (f Γ) fun d => thenG (h d Γ) fun Γ' => .nx Γ'
def sDrop (f : EFn) : SFn := fun Γ => thenR (f Γ) fun _ => .nx Γ
def sRet (f : EFn) : SFn := fun Γ => thenR (f Γ) fun d => .rt d
def sRetO (f : EFn) : SFn := fun Γ => thenR (f Γ) fun d => .ro d
def sRetN : SFn := fun _ => .rt .non
def sIf (c : Slots → Res Bool) (g h : SFn) : SFn := fun Γ => thenR (c Γ) fun b => if b = true then g Γ else h Γ
def sBk : SFn := fun Γ => .bk Γ
def sCt : SFn := fun Γ => .ct Γ
def sNo : SFn := fun _ => .stuck
def frz (i : Nat) (Γ : Slots) : Slots := match Γ[i]? with
  | some (.own d) => Γ.set i (.val d)
  | _ => Γ
def sFrz (i : Nat) (g : SFn) : SFn := fun Γ => g (frz i Γ)
def forD (h : GFn) (body : SFn) : List D → SFn
  | [], Γ => .nx Γ
  | d :: r, Γ => thenG (h d Γ) fun Γ1 => match body Γ1 with
    | .nx Γ2 => forD h body r Γ2
    | .ct Γ2 => forD h body r Γ2
    | .bk Γ2 => .nx Γ2
    | o => o
def sFor (its : Slots → Res (List D)) (h : GFn) (body : SFn) : SFn := fun Γ => thenR (its Γ) fun ds => forD h body ds Γ
def whileD (c : Slots → Res Bool) (body : SFn) : Nat → SFn
  | 0, _ => .stuck
  | n + 1, Γ => thenR (c Γ) fun b => if b = true then (match body Γ with
    | .nx Γ2 => whileD c body n Γ2
    | .ct Γ2 => whileD c body n Γ2
    | .bk Γ2 => .nx Γ2
    | o => o) else .nx Γ
def FUEL : Nat := 1099511627776
def sWhile (c : Slots → Res Bool) (body : SFn) : SFn := whileD c body FUEL
/-- x.append(e), x.extend(e), x[i] = e, d[k] = e, x += e -/
def sApp (i : Nat) (f : EFn) : SFn := fun Γ => match Γ[i]? with
  | some (.own (.lst xs)) => thenR (f Γ) fun d => if xs.length < sizeLine then .nx (Γ.set i (.own (.lst (xs ++ [d])))) else .stuck
  | _ => .stuck
def sExt (i : Nat) (f : EFn) : SFn := fun Γ => match Γ[i]? with
  | some (.own (.lst xs)) => thenR (f Γ) fun d => match d with
    | .lst ys => if xs.length + ys.length ≤ sizeLine then .nx (Γ.set i (.own (.lst (xs ++ ys)))) else .stuck
    | _ => .stuck
  | _ => .stuck
def sSetI (i : Nat) (fi f : EFn) : SFn := fun Γ => thenR (f Γ) fun d => match Γ[i]? with
  | some (.own (.lst xs)) => thenR (fi Γ) fun k => match k with
    | .int k => match ixN xs.length k with
      | some j => .nx (Γ.set i (.own (.lst (xs.set j d))))
      | none => .stuck
    | _ => .stuck
  | _ => .stuck
def sPut (i : Nat) (fk f : EFn) : SFn := fun Γ => thenR (f Γ) fun d => match Γ[i]? with
  | some (.own m) => thenR (fk Γ) fun k => thenR (dput m k d) fun m' => .nx (Γ.set i (.own m'))
  | _ => .stuck
def sAug (o : D → D → Res D) (i : Nat) (f : EFn) : SFn := fun Γ => match Γ[i]? with
  | some (.val a) => thenR (f Γ) fun b => thenR (o a b) fun c => .nx (Γ.set i (.val c))
  | _ => .stuck
/-- self.f = e: the j-th field of class c -/
def sFldS (c j i : Nat) (f : EFn) : SFn := fun Γ => thenR (f Γ) fun d => match Γ[i]? with
  | some (.own (.ins c' ds)) => if c' = c ∧ ds.length = j then .nx (Γ.set i (.own (.ins c (ds ++ [d])))) else .stuck
  | _ => .stuck

section
variable {K : PySem.W.Frag} {ce : CE} {W : Wish} {z : Option Nat} {s0 : Option (Option V)} {H0 F0 F H : Hp} {Γ : Slots} {σ : L2.St} {En : Ends} {t u : TS} {g h : SFn} {te ta tb : TE} {f fi : EFn}
theorem OutOk.mono {F' : Hp} (s : Same F F') : ∀ {o : Out}, OutOk K ce W z s0 H0 F0 F En o → OutOk K ce W z s0 H0 F0 F' En o
  | .nx Γ, h => fun σ F2 H st s2 => h σ F2 H st (s.trans s2)
  | .bk Γ, h => fun σ F2 H st s2 => h σ F2 H st (s.trans s2)
  | .ct Γ, h => fun σ F2 H st s2 => h σ F2 H st (s.trans s2)
  | .rt d, h => h
  | .ro d, h => h
  | .exc e, h => h
  | .stuck, h => h
  | .rc d, h => h
theorem Sta.ext {F' H' : Hp} (st : Sta K ce z s0 H0 F0 Γ σ F H) (x : Ext F H F' H') : Sta K ce z s0 H0 F0 Γ σ F' H' := ⟨st.ev.ext x, st.x.trans x, st.own, st.sep, st.bor, st.slf⟩
theorem out_wp {α : Type} {r : Res α} {k : α → Out} (st : Sta K ce z s0 H0 F0 Γ σ F H) (h : OutOk K ce W z s0 H0 F0 F En (thenR r k)) : r.wp (W.W H) fun a => OutOk K ce W z s0 H0 F0 F En (k a) := by
  cases r with
  | ok a => exact h
  | exc e => exact W.mono st.x.sH h
  | stuck => exact h
/-- a slot is given a frozen value -/
theorem Sta.setV {i : Nat} {d : D} {v : V} (hz : z ≠ some i) (st : Sta K ce z s0 H0 F0 Γ σ F H) (r : Rep K ce F d v) : Sta K ce z s0 H0 F0 (Γ.set i (.val d)) (σ.set i (some v)) F H := by
  have key : ∀ (j : Nat) (c : Cel), (Γ.set i (.val d))[j]? = some c → (∀ e, c ≠ .val e) → Γ[j]? = some c ∧ i ≠ j := fun j c e ne => by
    by_cases hj : i = j
    · subst hj
      by_cases hl : i < Γ.length
      · rw [List.getElem?_set_self hl] at e
        cases e
        exact (ne d rfl).elim
      · rw [List.getElem?_eq_none (by simpa using hl)] at e
        cases e
    · rw [List.getElem?_set_ne hj] at e
      exact ⟨e, hj⟩
  refine ⟨st.ev.set ⟨v, rfl, r⟩, st.x, fun j e a h1 h2 => ?_, fun j k e e' a hjk h1 h2 h3 h4 => ?_, fun j e h1 => ?_, fun k q => (List.getElem?_set_ne (fun e => hz (q.trans (congrArg some e.symm)))).trans (st.slf k q)⟩
  · obtain ⟨k1, k2⟩ := key j _ h1 (fun _ z => nomatch z)
    rw [List.getElem?_set_ne k2] at h2
    exact st.own j e a k1 h2
  · obtain ⟨k1, k2⟩ := key j _ h1 (fun _ z => nomatch z)
    obtain ⟨k3, k4⟩ := key k _ h2 (fun _ z => nomatch z)
    rw [List.getElem?_set_ne k2] at h3
    rw [List.getElem?_set_ne k4] at h4
    exact st.sep j k e e' a hjk k1 k3 h3 h4
  · obtain ⟨k1, k2⟩ := key j _ h1 (fun _ z => nomatch z)
    rw [List.getElem?_set_ne k2]
    exact st.bor j e k1
/-- a slot is given a new object -/
theorem Sta.setO {i : Nat} {d : D} {a : Addr} {o : HO} (hz : z ≠ some i) (st : Sta K ce z s0 H0 F0 Γ σ F H) (hF : F a = none) (hH : H a = some o) (h0 : H0 a = none) (hne : ∀ (j : Nat) (e : D), Γ[j]? = some (.own e) → j ≠ i → σ[j]? ≠ some (some (.ref a))) (r : ObjRep K ce F a d o) :
    Sta K ce z s0 H0 F0 (Γ.set i (.own d)) (σ.set i (some (.ref a))) F H := by
  have key : ∀ (j : Nat) (c : Cel), (Γ.set i (.own d))[j]? = some c → i ≠ j → Γ[j]? = some c := fun j c e hj => by
    rw [List.getElem?_set_ne hj] at e
    exact e
  have at_i : ∀ (c : Cel), (Γ.set i (.own d))[i]? = some c → c = .own d ∧ i < σ.length := fun c e => by
    by_cases hl : i < Γ.length
    · rw [List.getElem?_set_self hl] at e
      cases e
      exact ⟨rfl, by rw [← st.ev.len]; exact hl⟩
    · rw [List.getElem?_eq_none (by simpa using hl)] at e
      cases e
  refine ⟨st.ev.set ⟨a, o, rfl, hF, hH, r⟩, st.x, fun j e b h1 h2 => ?_, fun j k e e' b hjk h1 h2 h3 h4 => ?_, fun j e h1 => ?_, fun k q => (List.getElem?_set_ne (fun e => hz (q.trans (congrArg some e.symm)))).trans (st.slf k q)⟩
  · by_cases hj : i = j
    · subst hj
      obtain ⟨_, hl⟩ := at_i _ h1
      rw [List.getElem?_set_self hl] at h2
      cases h2
      exact h0
    · rw [List.getElem?_set_ne hj] at h2
      exact st.own j e b (key j _ h1 hj) h2
  · by_cases hj : i = j
    · subst hj
      obtain ⟨_, hl⟩ := at_i _ h1
      rw [List.getElem?_set_self hl] at h3
      cases h3
      rw [List.getElem?_set_ne hjk] at h4
      exact hne k e' (key k _ h2 hjk) (Ne.symm hjk) h4
    · by_cases hk : i = k
      · subst hk
        obtain ⟨_, hl⟩ := at_i _ h2
        rw [List.getElem?_set_self hl] at h4
        cases h4
        rw [List.getElem?_set_ne hj] at h3
        exact hne j e (key j _ h1 hj) hjk h3
      · rw [List.getElem?_set_ne hj] at h3
        rw [List.getElem?_set_ne hk] at h4
        exact st.sep j k e e' b hjk (key j _ h1 hj) (key k _ h2 hk) h3 h4
  · by_cases hj : i = j
    · subst hj
      obtain ⟨q, _⟩ := at_i _ h1
      cases q
    · rw [List.getElem?_set_ne hj]
      exact st.bor j e (key j _ h1 hj)
/-- .. that is new in the heap -/
theorem Sta.setN {i : Nat} {d : D} {a : Addr} {o : HO} {F' H' : Hp} (hz : z ≠ some i) (st : Sta K ce z s0 H0 F0 Γ σ F H) (x : Ext F H F' H') (hF : F' a = none) (hN : H a = none) (hH : H' a = some o) (r : ObjRep K ce F' a d o) :
    Sta K ce z s0 H0 F0 (Γ.set i (.own d)) (σ.set i (some (.ref a))) F' H' := by
  refine Sta.setO hz (st.ext x) hF hH (st.x.sH.free hN) (fun j e h1 _ h2 => ?_) r
  obtain ⟨b, o', h3, _, h4, _⟩ := st.ev.cells j _ h1
  rw [h2] at h3
  cases h3
  rw [hN] at h4
  cases h4
/-- the object of an own slot is written -/
theorem Sta.write {i : Nat} {d d' : D} {a : Addr} {o' : HO} (st : Sta K ce z s0 H0 F0 Γ σ F H) (h1 : Γ[i]? = some (.own d)) (h2 : σ[i]? = some (some (.ref a))) (hF : F a = none) (r : ObjRep K ce F a d' o') :
    Sta K ce z s0 H0 F0 (Γ.set i (.own d')) σ F (upd H a o') := by
  have h0 := st.own i d a h1 h2
  have hl : i < Γ.length := (List.getElem?_eq_some_iff.mp h1).1
  have e1 : (Γ.set i (.own d'))[i]? = some (.own d') := List.getElem?_set_self hl
  have up : ∀ {G : Hp}, Same G H → G a = none → Same G (upd H a o') := fun {G} s n b q e => by
    rw [upd_ne (ne_of_none e n)]
    exact s _ _ e
  refine ⟨⟨up st.ev.sub hF, fun j c e => ?_, by rw [List.length_set]; exact st.ev.len⟩, ⟨st.x.sF, up st.x.sH h0, up st.x.sub hF, st.x.new⟩, fun j e b q1 q2 => ?_, fun j k e e' b hjk q1 q2 q3 q4 => ?_, fun j e q1 => ?_, st.slf⟩
  · by_cases hj : i = j
    · subst hj
      rw [e1] at e
      cases e
      exact ⟨a, o', h2, hF, upd_same, r⟩
    · rw [List.getElem?_set_ne hj] at e
      have q := st.ev.cells j c e
      cases c with
      | no => trivial
      | val d => exact q
      | own d2 =>
        obtain ⟨b, o2, p1, p2, p3, p4⟩ := q
        refine ⟨b, o2, p1, p2, ?_, p4⟩
        rw [upd_ne]
        · exact p3
        · rintro rfl
          exact st.sep i j d d2 b hj h1 e h2 p1
      | bor d2 =>
        obtain ⟨v, p1, p2⟩ := st.bor j d2 e
        exact ⟨v, p1, BRep.mono st.x.sF (up st.x.sH h0) _ _ p2⟩
  · by_cases hj : i = j
    · subst hj
      exact st.own i d b h1 q2
    · rw [List.getElem?_set_ne hj] at q1
      exact st.own j e b q1 q2
  · by_cases hj : i = j
    · subst hj
      rw [List.getElem?_set_ne hjk] at q2
      exact st.sep i k d e' b hjk h1 q2 q3 q4
    · by_cases hk : i = k
      · subst hk
        rw [List.getElem?_set_ne hj] at q1
        exact st.sep j i e d b hjk q1 h1 q3 q4
      · rw [List.getElem?_set_ne hj] at q1
        rw [List.getElem?_set_ne hk] at q2
        exact st.sep j k e e' b hjk q1 q2 q3 q4
  · by_cases hj : i = j
    · subst hj
      rw [e1] at q1
      cases q1
    · rw [List.getElem?_set_ne hj] at q1
      exact st.bor j e q1
theorem set_self {i : Nat} {c : Cel} (h : Γ[i]? = some c) : Γ.set i c = Γ := by
  refine List.ext_getElem? fun j => ?_
  by_cases hj : i = j
  · subst hj
    rw [List.getElem?_set_self (List.getElem?_eq_some_iff.mp h).1, h]
  · rw [List.getElem?_set_ne hj]
/-- an own slot is frozen -/
theorem Sta.freeze {i : Nat} (st : Sta K ce z s0 H0 F0 Γ σ F H) : ∃ F', Sta K ce z s0 H0 F0 (frz i Γ) σ F' H ∧ Same F F' := by
  unfold frz
  split
  · rename_i d e
    obtain ⟨a, o, h1, h2, h3, h4⟩ := st.ev.cells i _ e
    obtain ⟨s1, s2⟩ := Ext.freeze st.ev.sub h2 h3
    have hl : i < Γ.length := (List.getElem?_eq_some_iff.mp e).1
    have h0 := st.own i d a e h1
    have ea : (Γ.set i (.val d))[i]? = some (.val d) := List.getElem?_set_self hl
    refine ⟨upd F a o, ⟨⟨s2, fun j c q => ?_, by rw [List.length_set]; exact st.ev.len⟩, ⟨st.x.sF.trans s1, st.x.sH, s2, fun b hb hb' => ?_⟩, fun j e' b q1 q2 => ?_, fun j k e1 e2 b hjk q1 q2 q3 q4 => ?_, fun j e' q1 => ?_, st.slf⟩, s1⟩
    · by_cases hj : i = j
      · subst hj
        rw [ea] at q
        cases q
        exact ⟨.ref a, h1, (ObjRep.mono s1 _ _ h4).r upd_same⟩
      · rw [List.getElem?_set_ne hj] at q
        have p := st.ev.cells j c q
        cases c with
        | no => trivial
        | val d2 => obtain ⟨v, p1, p2⟩ := p; exact ⟨v, p1, Rep.mono s1 _ _ p2⟩
        | own d2 =>
          obtain ⟨b, o2, p1, p2, p3, p4⟩ := p
          refine ⟨b, o2, p1, ?_, p3, ObjRep.mono s1 _ _ p4⟩
          rw [upd_ne]
          · exact p2
          · rintro rfl
            exact st.sep i j d d2 b hj e q h1 p1
        | bor d2 => obtain ⟨v, p1, p2⟩ := p; exact ⟨v, p1, BRep.mono s1 (.refl _) _ _ p2⟩
    · by_cases q : b = a
      · subst q; exact h0
      · rw [upd_ne q] at hb'; exact st.x.new b hb hb'
    · by_cases hj : i = j
      · subst hj
        rw [ea] at q1
        cases q1
      · rw [List.getElem?_set_ne hj] at q1
        exact st.own j e' b q1 q2
    · by_cases hj : i = j
      · subst hj
        rw [ea] at q1
        cases q1
      · by_cases hk : i = k
        · subst hk
          rw [ea] at q2
          cases q2
        · rw [List.getElem?_set_ne hj] at q1
          rw [List.getElem?_set_ne hk] at q2
          exact st.sep j k e1 e2 b hjk q1 q2 q3 q4
    · by_cases hj : i = j
      · subst hj
        rw [ea] at q1
        cases q1
      · rw [List.getElem?_set_ne hj] at q1
        exact st.bor j e' q1
  · exact ⟨F, st, .refl _⟩
/-- targets -/
theorem Sta.upd {is : List Nat} {Γ' : Slots} {σ' : L2.St} (st : Sta K ce z s0 H0 F0 Γ σ F H) (hz : ∀ k ∈ is, z ≠ some k) (ev : Ev K ce Γ' σ' F H) (u : Upd is Γ Γ' σ σ') : Sta K ce z s0 H0 F0 Γ' σ' F H := by
  have key : ∀ (j : Nat) (c : Cel), Γ'[j]? = some c → (∀ e, c ≠ .val e) → Γ[j]? = some c ∧ σ'[j]? = σ[j]? := fun j c e ne => by
    rcases u.at_ j with ⟨_, d, h⟩ | ⟨h1, h2⟩
    · rw [e] at h
      cases h
      exact (ne d rfl).elim
    · exact ⟨by rw [← h1]; exact e, h2⟩
  refine ⟨ev, st.x, fun j e a h1 h2 => ?_, fun j k e e' a hjk h1 h2 h3 h4 => ?_, fun j e h1 => ?_, fun k q => ((u.at_ k).elim (fun w => (hz k w.1 q).elim) fun w => w.2).trans (st.slf k q)⟩
  · obtain ⟨k1, k2⟩ := key j _ h1 (fun _ z => nomatch z)
    exact st.own j e a k1 (by rw [← k2]; exact h2)
  · obtain ⟨k1, k2⟩ := key j _ h1 (fun _ z => nomatch z)
    obtain ⟨k3, k4⟩ := key k _ h2 (fun _ z => nomatch z)
    exact st.sep j k e e' a hjk k1 k3 (by rw [← k2]; exact h3) (by rw [← k4]; exact h4)
  · obtain ⟨k1, k2⟩ := key j _ h1 (fun _ z => nomatch z)
    rw [k2]
    exact st.bor j e k1

/-! ### the rules -/
theorem ds_nil : DenS K ce W z tNext sNx := fun s0 H0 F0 Γ σ F H D st h => h σ F H st (.refl _)
theorem ds_seq (x : DenS K ce W z t g) (y : DenS K ce W z u h) : DenS K ce W z (tSeq t u) (sSeq g h) := fun s0 H0 F0 Γ σ F H D st hh => by
  refine x s0 H0 F0 Γ σ F H { D with nx := u D } st ?_
  unfold sSeq at hh
  cases q : g Γ with
  | nx Γ' => rw [q] at hh; exact fun σ' F' H' st' s' => y s0 H0 F0 Γ' σ' F' H' D st' (hh.mono s')
  | bk Γ' => rw [q] at hh; exact hh
  | ct Γ' => rw [q] at hh; exact hh
  | rt d => rw [q] at hh; exact hh
  | ro d => rw [q] at hh; exact hh
  | rc d => rw [q] at hh; exact hh
  | exc e => rw [q] at hh; exact hh
  | stuck => rw [q] at hh; exact hh
theorem ds_val (i : Nat) (x : DenV K ce W te f) (hz : z ≠ some i := by decide) : DenS K ce W z (tAsg te (gName i)) (sVal i f) := fun s0 H0 F0 Γ σ F H D st hh =>
  x Γ σ F H _ st.ev (Res.wp_mono (out_wp st hh) (fun _ z => z) fun d _ k v F' H' e r => k _ F' H' (Sta.setV hz (st.ext e) r) e.sF)
theorem ds_own (i : Nat) (x : DenF K ce W te f) (hz : z ≠ some i := by decide) : DenS K ce W z (tAsg te (gName i)) (sOwn i f) := fun s0 H0 F0 Γ σ F H D st hh =>
  x Γ σ F H _ st.ev (Res.wp_mono (out_wp st hh) (fun _ z => z) fun d _ k a o F' H' e hF hN hH r => k _ F' H' (Sta.setN hz st e hF hN hH r) e.sF)
theorem ds_asg {is : List Nat} {tg : TG} {h : GFn} (x : DenV K ce W te f) (y : DenG K ce is tg h) (hz : ∀ k ∈ is, z ≠ some k := by decide) : DenS K ce W z (tAsg te tg) (sAsg f h) := fun s0 H0 F0 Γ σ F H D st hh => by
  refine x Γ σ F H _ st.ev (Res.wp_mono (out_wp st hh) (fun _ z => z) fun d _ k v F' H' e r => ?_)
  refine y Γ σ F' H' v d _ (st.ev.ext e) r ?_
  cases q : h d Γ with
  | ok Γ' => rw [q] at k; exact fun σ' ev' u' => k σ' F' H' ((st.ext e).upd hz ev' u') e.sF
  | exc c => rw [q] at k; exact k
  | stuck => rw [q] at k; exact k
theorem ds_drop (x : DenB K ce W te f) : DenS K ce W z (tDrop te) (sDrop f) := fun s0 H0 F0 Γ σ F H N st hh =>
  x Γ σ F H _ st.ev (Res.wp_mono (out_wp st hh) (fun _ z => z) fun d _ k v F' H' e r => k _ F' H' (st.ext e) e.sF)
theorem ds_ret (x : DenV K ce W te f) : DenS K ce W z (tRet te) (sRet f) := fun s0 H0 F0 Γ σ F H N st hh =>
  x Γ σ F H _ st.ev (Res.wp_mono (out_wp st hh) (fun _ z => z) fun d _ k v F' H' e r => k v F' H' (st.x.trans e) r)
theorem ds_retO (x : DenF K ce W te f) : DenS K ce W z (tRet te) (sRetO f) := fun s0 H0 F0 Γ σ F H N st hh =>
  x Γ σ F H _ st.ev (Res.wp_mono (out_wp st hh) (fun _ z => z) fun d _ k a o F' H' e hF hN hH r => k a o F' H' (st.x.trans e) hF (st.x.sH.free hN) hH r)
theorem ds_retN : DenS K ce W z tRetN sRetN := fun s0 H0 F0 Γ σ F H N st hh => hh _ F H st.x rNon
def sRetX (i : Nat) : SFn := fun Γ => match Γ[i]? with
  | some (.own d) => .ro d
  | _ => .stuck
/-- return x, x an own object -/
theorem ds_retX (i : Nat) : DenS K ce W z (tRet (tVar i)) (sRetX i) := fun s0 H0 F0 Γ σ F H N st hh => by
  unfold sRetX at hh
  split at hh
  · rename_i d e
    obtain ⟨a, o, h1, h2, h3, h4⟩ := st.ev.cells i _ e
    exact ⟨_, h1, hh a o F H st.x h2 (st.own i d a e h1) h3 h4⟩
  · exact hh.elim
theorem ds_if {c : TT} {p : Slots → Res Bool} (zz : DenT K ce W c p) (x : DenS K ce W z t g) (y : DenS K ce W z u h) : DenS K ce W z (tIfS c t u) (sIf p g h) := fun s0 H0 F0 Γ σ F H N st hh =>
  zz Γ σ F H _ st.ev (Res.wp_mono (out_wp st hh) (fun _ z => z) fun b _ k F' H' e => by
    cases b with
    | true =>
      rw [if_pos rfl] at k ⊢
      exact x s0 H0 F0 Γ σ F' H' N (st.ext e) (k.mono e.sF)
    | false =>
      rw [if_neg Bool.false_ne_true] at k ⊢
      exact y s0 H0 F0 Γ σ F' H' N (st.ext e) (k.mono e.sF))
theorem ds_bk : DenS K ce W z tBreak sBk := fun s0 H0 F0 Γ σ F H N st hh => hh σ F H st (.refl _)
theorem ds_ct : DenS K ce W z tCont sCt := fun s0 H0 F0 Γ σ F H N st hh => hh σ F H st (.refl _)
theorem ds_no : DenS K ce W z tNever sNo := fun s0 H0 F0 Γ σ F H N st hh => hh
theorem ds_frz (i : Nat) (x : DenS K ce W z t g) : DenS K ce W z t (sFrz i g) := fun s0 H0 F0 Γ σ F H N st hh => by
  obtain ⟨F', st', s⟩ := st.freeze (i := i)
  exact x s0 H0 F0 _ σ F' H N st' (OutOk.mono s hh)
theorem for_core {J : It} {tg : TG} {h : GFn} {is : List Nat} {body : SFn} {N : Ends} {ds : List D} {F1 H1 : Hp} (hg : DenG K ce is tg h) (hb : DenS K ce W z t body) (hz : ∀ k ∈ is, z ≠ some k) (st : Sta K ce z s0 H0 F0 Γ σ F1 H1)
    (io : ItOk K ce J F1 H0 ds) (k : OutOk K ce W z s0 H0 F0 F1 N (forD h body ds Γ)) : ∃ W : Nat → Nat → L2.St → Hp → Prop, (∃ m, W 0 m σ H1) ∧ ∀ i m σ H, W i m σ H →
      (J.stop i H ∧ N.nx σ H) ∨ (J.go i H ∧ ∃ Nx : L2.St → Hp → Prop, (∀ σ' H', Nx σ' H' → ∃ m', m' < m ∧ W (i + 1) m' σ' H') ∧ ∀ x H', J.yld i H x H' → tg x σ H' fun σ2 H2 => t { N with nx := Nx, ct := Nx, bk := N.nx } σ2 H2) := by
  refine ⟨fun i m σ' H' => ∃ Γ' F', m = ds.length - i ∧ i ≤ ds.length ∧ Sta K ce z s0 H0 F0 Γ' σ' F' H' ∧ Same F1 F' ∧ OutOk K ce W z s0 H0 F0 F' N (forD h body (ds.drop i) Γ'), ⟨ds.length, Γ, F1, by simp, Nat.zero_le _, st, .refl _, by rw [List.drop_zero]; exact k⟩, ?_⟩
  rintro i m σ' H' ⟨Γ', F', rfl, hi', st', s', ok⟩
  obtain ⟨go, stop⟩ := io F' H' s' st'.ev.sub st'.x.sH
  by_cases hlt : i < ds.length
  · have ed : ds[i]? = some ds[i] := List.getElem?_eq_getElem hlt
    obtain ⟨g1, g2⟩ := go i _ ed
    rw [List.drop_eq_getElem_cons hlt] at ok
    unfold forD at ok
    refine .inr ⟨g1, fun σ2 H2 => ∃ Γ' F', i + 1 ≤ ds.length ∧ Sta K ce z s0 H0 F0 Γ' σ2 F' H2 ∧ Same F1 F' ∧ OutOk K ce W z s0 H0 F0 F' N (forD h body (ds.drop (i + 1)) Γ'), ?_, fun v H2 hy => ?_⟩
    · rintro σ2 H2 ⟨Γ2, F2, h1, h2, h3, h4⟩
      exact ⟨_, (by omega : ds.length - (i + 1) < ds.length - i), Γ2, F2, rfl, h1, h2, h3, h4⟩
    · obtain ⟨F2, y2, rd⟩ := g2 v H2 hy
      refine hg Γ' σ' F2 H2 v _ _ (st'.ev.ext y2) rd ?_
      cases q1 : h ds[i] Γ' with
      | exc c => rw [q1] at ok; exact ok
      | stuck => rw [q1] at ok; exact ok
      | ok Γ1 =>
        rw [q1] at ok
        refine fun σ1 ev1 u1 => ?_
        have st1 := (st'.ext y2).upd hz ev1 u1
        have s2 : Same F1 F2 := s'.trans y2.sF
        refine hb s0 H0 F0 Γ1 σ1 F2 H2 _ st1 ?_
        have ok' : OutOk K ce W z s0 H0 F0 F' N (match body Γ1 with
          | .nx Γ2 => forD h body (ds.drop (i + 1)) Γ2
          | .ct Γ2 => forD h body (ds.drop (i + 1)) Γ2
          | .bk Γ2 => .nx Γ2
          | o => o) := ok
        cases q2 : body Γ1 with
        | nx Γ2 => rw [q2] at ok'; exact fun σ3 F3 H3 st3 s3 => ⟨Γ2, F3, hlt, st3, s2.trans s3, ok'.mono (y2.sF.trans s3)⟩
        | ct Γ2 => rw [q2] at ok'; exact fun σ3 F3 H3 st3 s3 => ⟨Γ2, F3, hlt, st3, s2.trans s3, ok'.mono (y2.sF.trans s3)⟩
        | bk Γ2 => rw [q2] at ok'; exact fun σ3 F3 H3 st3 s3 => ok' σ3 F3 H3 st3 (y2.sF.trans s3)
        | rt d => rw [q2] at ok'; exact ok'
        | ro d => rw [q2] at ok'; exact ok'
        | rc d => rw [q2] at ok'; exact ok'
        | exc e => rw [q2] at ok'; exact ok'
        | stuck => rw [q2] at ok'; exact ok'
  · have e : i = ds.length := by omega
    subst e
    rw [List.drop_length] at ok
    exact .inl ⟨stop, ok σ' F' H' st' (.refl _)⟩
theorem ds_for {wi : TI} {tg : TG} {its : Slots → Res (List D)} {h : GFn} {is : List Nat} {body : SFn} (hi : DenI K ce W wi its) (hg : DenG K ce is tg h) (hb : DenS K ce W z t body) (hz : ∀ k ∈ is, z ≠ some k := by decide) : DenS K ce W z (tFor wi tg t) (sFor its h body) := fun s0 H0 F0 Γ σ F H N st hh => by
  refine hi Γ σ F H _ st.ev (Res.wp_mono (out_wp st hh) (fun _ z => z) fun ds _ k J F1 H1 x1 io => ?_)
  exact for_core hg hb hz (st.ext x1) (fun F2 H2 s1 s2 _ => io F2 H2 s1 s2 noSame) (k.mono x1.sF)
/-- for x in p, p a parameter that is lent -/
theorem ds_forB {tg : TG} {h : GFn} {is : List Nat} {body : SFn} (i : Nat) (hg : DenG K ce is tg h) (hb : DenS K ce W z t body) (hz : ∀ k ∈ is, z ≠ some k := by decide) : DenS K ce W z (tFor (iSeq K (tVar i)) tg t) (sFor (iS (eP i)) h body) := fun s0 H0 F0 Γ σ F H N st hh => by
  have hh := out_wp st hh
  unfold iS eP at hh
  split at hh
  · rename_i d e
    obtain ⟨v, h1, h2⟩ := st.ev.cells i _ e
    refine ⟨v, h1, ?_⟩
    cases d <;> first | exact hh.elim | skip
    · unfold Rep at h2
      obtain ⟨a, vs, rfl, ha, hv⟩ := h2
      exact ⟨a, rfl, .inr ⟨⟨vs, .of (st.ev.sub _ _ ha)⟩, for_core hg hb hz st (it_tup ha hv) hh⟩⟩
    · unfold Rep at h2
      obtain ⟨a, vs, rfl, ha, hv⟩ := h2
      exact ⟨a, rfl, .inl ⟨⟨vs, .of (st.ev.sub _ _ ha)⟩, for_core hg hb hz st (it_lst ha hv) hh⟩⟩
    · unfold Rep at h2
      obtain ⟨a, rfl, ha⟩ := h2
      exact ⟨a, rfl, .inl ⟨⟨_, st.ev.sub.seq ha⟩, for_core hg hb hz st (it_scr ha) hh⟩⟩
  · rename_i d e
    obtain ⟨v, h1, h2⟩ := st.bor i _ e
    refine ⟨v, h1, ?_⟩
    cases d <;> first | exact hh.elim | skip
    · obtain ⟨a, vs, rfl, ha, hv⟩ := h2
      exact ⟨a, rfl, .inr ⟨⟨vs, .of (st.x.sH _ _ ha)⟩, for_core hg hb hz st (it_tupB ha (Reps.mono st.x.sF _ _ hv)) hh⟩⟩
    · obtain ⟨a, vs, rfl, ha, hv⟩ := h2
      exact ⟨a, rfl, .inl ⟨⟨vs, .of (st.x.sH _ _ ha)⟩, for_core hg hb hz st (it_lstB ha (Reps.mono st.x.sF _ _ hv)) hh⟩⟩
    · obtain ⟨a, rfl, ha⟩ := h2
      exact ⟨a, rfl, .inl ⟨⟨_, st.x.sH.seq ha⟩, for_core hg hb hz st (it_scrB ha) hh⟩⟩
  · exact hh.elim
theorem ds_while {c : TT} {p : Slots → Res Bool} {body : SFn} (hc : DenT K ce W c p) (hb : DenS K ce W z t body) : DenS K ce W z (tWhile c t) (sWhile p body) := fun s0 H0 F0 Γ σ F H N st hh => by
  refine ⟨fun m σ' H' => ∃ Γ' F', Sta K ce z s0 H0 F0 Γ' σ' F' H' ∧ OutOk K ce W z s0 H0 F0 F' N (whileD p body m Γ'), ⟨FUEL, Γ, F, st, hh⟩, ?_⟩
  rintro m σ' H' ⟨Γ', F', st', ok⟩
  cases m with
  | zero => exact ok.elim
  | succ m =>
    unfold whileD at ok
    refine hc Γ' σ' F' H' _ st'.ev (Res.wp_mono (out_wp st' ok) (fun _ z => z) fun b _ k F1 H1 x1 => ?_)
    cases b with
    | false =>
      rw [if_neg Bool.false_ne_true] at k ⊢
      exact k σ' F1 H1 (st'.ext x1) x1.sF
    | true =>
      rw [if_pos rfl] at k ⊢
      refine ⟨fun σ2 H2 => ∃ Γ' F', Sta K ce z s0 H0 F0 Γ' σ2 F' H2 ∧ OutOk K ce W z s0 H0 F0 F' N (whileD p body m Γ'), fun σ2 H2 h2 => ⟨m, Nat.lt_succ_self _, h2⟩, ?_⟩
      refine hb s0 H0 F0 Γ' σ' F1 H1 _ (st'.ext x1) ?_
      cases q2 : body Γ' with
      | nx Γ2 => rw [q2] at k; exact fun σ3 F3 H3 st3 s3 => ⟨Γ2, F3, st3, k.mono (x1.sF.trans s3)⟩
      | ct Γ2 => rw [q2] at k; exact fun σ3 F3 H3 st3 s3 => ⟨Γ2, F3, st3, k.mono (x1.sF.trans s3)⟩
      | bk Γ2 => rw [q2] at k; exact fun σ3 F3 H3 st3 s3 => k σ3 F3 H3 st3 (x1.sF.trans s3)
      | rt d => rw [q2] at k; exact k
      | ro d => rw [q2] at k; exact k
      | rc d => rw [q2] at k; exact k
      | exc e => rw [q2] at k; exact k
      | stuck => rw [q2] at k; exact k

/-! ### writes -/
theorem ext_own {F' H' : Hp} {a : Addr} {o : HO} (x : Ext F H F' H') (hF : F a = none) (hH : H a = some o) : F' a = none ∧ H' a = some o := by
  refine ⟨?_, x.sH _ _ hH⟩
  cases q : F' a with
  | none => rfl
  | some u =>
    have := x.new a hF (by rw [q]; exact fun z => nomatch z)
    rw [hH] at this; cases this
theorem ds_app (i : Nat) (x : DenV K ce W te f) : DenS K ce W z (tDrop (tBM K "list" rAppend (tVar i) (tCons te tNil))) (sApp i f) := fun s0 H0 F0 Γ σ F H N st hh => by
  unfold sApp at hh
  split at hh
  · rename_i xs e
    obtain ⟨a, o, h1, h2, h3, vs, rfl, h4⟩ := st.ev.cells i _ e
    refine ⟨_, h1, .inl ⟨rfl, vs, .of h3⟩, x Γ σ F H _ st.ev (Res.wp_mono (out_wp st hh) (fun _ z => z) fun d _ k v F' H' y r => ?_)⟩
    split at k
    · rename_i hz
      obtain ⟨k2, k3⟩ := ext_own y h2 h3
      refine ⟨a, vs, v, rfl, rfl, k3, by rw [h4.length]; exact hz, ?_⟩
      exact k σ F' _ ((st.ext y).write e h1 k2 ⟨_, rfl, (Reps.mono y.sF _ _ h4).app (.cons r .nil)⟩) y.sF
    · exact k.elim
  · exact hh.elim
theorem ds_ext (i : Nat) (x : DenB K ce W te f) : DenS K ce W z (tDrop (tBM K "list" rExtend (tVar i) (tCons te tNil))) (sExt i f) := fun s0 H0 F0 Γ σ F H N st hh => by
  unfold sExt at hh
  split at hh
  · rename_i xs e
    obtain ⟨a, o, h1, h2, h3, vs, rfl, h4⟩ := st.ev.cells i _ e
    refine ⟨_, h1, .inl ⟨rfl, vs, .of h3⟩, x Γ σ F H _ st.ev (Res.wp_mono (out_wp st hh) (fun _ z => z) fun d _ k v F' H' y r => ?_)⟩
    split at k
    · split at k
      · rename_i hz
        obtain ⟨k2, k3⟩ := ext_own y h2 h3
        obtain ⟨b, ws, rfl, hb, hw⟩ := r
        refine ⟨a, b, vs, ws, rfl, rfl, k3, hb, by rw [h4.length, hw.length]; exact hz, ?_⟩
        exact k σ F' _ ((st.ext y).write e h1 k2 ⟨_, rfl, (Reps.mono y.sF _ _ h4).app hw⟩) y.sF
      · exact k.elim
    · exact k.elim
  · exact hh.elim
theorem ds_setI {ti : TE} (i : Nat) (x : DenV K ce W te f) (y : DenB K ce W ti fi) : DenS K ce W z (tAsg te (gSub (tVar i) ti rSetL)) (sSetI i fi f) := fun s0 H0 F0 Γ σ F H N st hh => by
  refine x Γ σ F H _ st.ev (Res.wp_mono (out_wp st hh) (fun _ z => z) fun d _ k v F1 H1 x1 r1 => ?_)
  have st1 := st.ext x1
  have k := OutOk.mono x1.sF k
  split at k
  · rename_i xs e
    obtain ⟨a, o, h1, h2, h3, vs, rfl, h4⟩ := st1.ev.cells i _ e
    refine ⟨_, h1, y Γ σ F1 H1 _ st1.ev (Res.wp_mono (out_wp st1 k) (fun _ z => z) fun kd _ k u F2 H2 x2 r2 => ?_)⟩
    split at k
    · split at k
      · rename_i ej
        obtain ⟨k2, k3⟩ := ext_own x2 h2 h3
        cases r2
        refine ⟨a, vs, _, _, rfl, rfl, k3, (by rw [h4.length]; exact ej), ?_⟩
        exact k σ F2 _ ((st1.ext x2).write e h1 k2 ⟨_, rfl, (Reps.mono x2.sF _ _ h4).set _ (Rep.mono x2.sF _ _ r1)⟩) x2.sF
      · exact k.elim
    · exact k.elim
  · exact k.elim
theorem dput_ok {m k d m' : D} {o : HO} {a : Addr} {y v : V} (e : dput m k d = .ok m') (ha : H a = some o) (hm : ObjRep K ce F a m o) (hk : BRep K ce F H k y) (hv : Rep K ce F d v) : ∃ o', DPut H a y v (upd H a o') ∧ ObjRep K ce F a m' o' := by
  cases m
  case dI kvs =>
    cases k
    case int k =>
      unfold dput at e
      simp only at e
      split at e
      · rename_i hz
        cases e
        obtain ⟨l, rfl, hl⟩ := hm
        cases hk
        have hl' := repsI_iff.mp hl
        exact ⟨_, DPut.k (k := Sum.inl k) ha (by rw [hl'.length]; exact hz), _, rfl, repsI_iff.mpr (hl'.put (fun a b => Sum.inl.inj) hv k)⟩
      · cases e
    all_goals cases e
  case dS kvs =>
    cases k
    case str k =>
      unfold dput at e
      simp only at e
      split at e
      · rename_i hz
        cases e
        obtain ⟨l, rfl, hl⟩ := hm
        cases hk
        have hl' := repsS_iff.mp hl
        exact ⟨_, DPut.k (k := Sum.inr k) ha (by rw [hl'.length]; exact hz), _, rfl, repsS_iff.mpr (hl'.put (fun a b => Sum.inr.inj) hv k)⟩
      · cases e
    all_goals cases e
  case dT kvs =>
    cases k
    case tup ks =>
      unfold dput at e
      simp only at e
      split at e
      · rename_i is eis
        split at e
        · rename_i hz
          cases e
          obtain ⟨l, rfl, hl⟩ := hm
          obtain ⟨b, ws, rfl, hb, hw⟩ := hk
          rw [asInts_r eis hw, ← kV_ints] at hb
          have hl' := repsT_iff.mp hl
          exact ⟨_, DPut.t ha hb (by rw [hl'.length]; exact hz), _, rfl, repsT_iff.mpr (hl'.put map_inl_inj hv is)⟩
        · cases e
      · cases e
    all_goals cases e
  all_goals cases e
theorem dput_noexc {m k d : D} {c : Exn} (h : dput m k d = .exc c) : False := by
  unfold dput at h
  split at h
  · split at h <;> cases h
  · split at h <;> cases h
  · split at h
    · split at h <;> cases h
    · cases h
  · cases h
theorem ds_put {ty : TE} (i : Nat) (x : DenV K ce W te f) (y : DenB K ce W ty fi) : DenS K ce W z (sDPut (tVar i) ty te) (sPut i fi f) := fun s0 H0 F0 Γ σ F H N st hh => by
  refine x Γ σ F H _ st.ev (Res.wp_mono (out_wp st hh) (fun _ z => z) fun d _ k v F1 H1 x1 r1 => ?_)
  have st1 := st.ext x1
  have k := OutOk.mono x1.sF k
  split at k
  · rename_i m e
    obtain ⟨a, o, h1, h2, h3, h4⟩ := st1.ev.cells i _ e
    refine ⟨_, h1, y Γ σ F1 H1 _ st1.ev (Res.wp_mono (out_wp st1 k) (fun _ z => z) fun kd _ k u F2 H2 x2 r2 => ?_)⟩
    obtain ⟨k2, k3⟩ := ext_own x2 h2 h3
    cases q : dput m kd d with
    | exc c => exact (dput_noexc q).elim
    | stuck => rw [q] at k; exact k.elim
    | ok m' =>
      rw [q] at k
      obtain ⟨o', p1, p2⟩ := dput_ok q k3 (ObjRep.mono x2.sF _ _ h4) r2 (Rep.mono x2.sF _ _ r1)
      exact ⟨a, _, rfl, p1, k σ F2 _ ((st1.ext x2).write e h1 k2 p2) x2.sF⟩
  · exact k.elim
/-- x += e -/
theorem ds_aug {ti : TIp} {o : D → D → Res D} (i : Nat) (x : DenV K ce W te f) (ho : ∀ (E : Exn → Prop) (F H : Hp) (x y : V) (a b : D) (Q : VK), Same F H → Rep K ce F a x → Rep K ce F b y → (o a b).wp E (fun d => ∀ v F' H', Ext F H F' H' → Rep K ce F' d v → Q v H') → ti x y H Q) (hz : z ≠ some i := by decide) :
    DenS K ce W z (tAug i te ti) (sAug o i f) := fun s0 H0 F0 Γ σ F H N st hh => by
  unfold sAug at hh
  split at hh
  · rename_i a e
    obtain ⟨v, h1, h2⟩ := st.ev.cells i _ e
    refine ⟨v, h1, x Γ σ F H _ st.ev (Res.wp_mono (out_wp st hh) (fun _ z => z) fun b _ k u F1 H1 x1 r1 => ?_)⟩
    have st1 := st.ext x1
    refine ho _ F1 H1 v u a b _ x1.sub (Rep.mono x1.sF _ _ h2) r1 (Res.wp_mono (out_wp st1 (OutOk.mono x1.sF k)) (fun _ z => z) fun c _ k w F2 H2 x2 r2 => ?_)
    exact k _ F2 H2 (Sta.setV hz (st1.ext x2) r2) x2.sF
  · exact hh.elim
theorem ai_add (E : Exn → Prop) (F H : Hp) (x y : V) (a b : D) (Q : VK) (s : Same F H) (ha : Rep K ce F a x) (hb : Rep K ce F b y) (h : (addD a b).wp E (fun d => ∀ v F' H', Ext F H F' H' → Rep K ce F' d v → Q v H')) : (ipI fun i j => i + j) x y H Q := od_add E F H x y a b Q s (ha.b s) (hb.b s) h
theorem ai_sub (E : Exn → Prop) (F H : Hp) (x y : V) (a b : D) (Q : VK) (s : Same F H) (ha : Rep K ce F a x) (hb : Rep K ce F b y) (h : (subD a b).wp E (fun d => ∀ v F' H', Ext F H F' H' → Rep K ce F' d v → Q v H')) : (ipI fun i j => i - j) x y H Q := od_sub E F H x y a b Q s (ha.b s) (hb.b s) h
theorem putF_zip : ∀ {ns : List Str} {vs : List V} {fn : Str} {y : V}, ns.Nodup → ns[vs.length]? = some fn → putF fn y (ns.zip vs) = ns.zip (vs ++ [y])
  | [], vs, fn, y, _, h => by simp at h
  | n :: ns, [], fn, y, _, h => by
    simp at h
    subst h
    rw [List.nil_append, List.zip_cons_cons]
    simp [putF]
  | n :: ns, w :: vs, fn, y, nd, h => by
    have h1 : ns[vs.length]? = some fn := by simpa using h
    have hm : fn ∈ ns := List.mem_of_getElem? h1
    have hne : ¬ fn = n := fun e => by
      subst e
      exact (List.nodup_cons.mp nd).1 hm
    have hne' : ¬ n = fn := fun e => hne e.symm
    rw [List.cons_append, List.zip_cons_cons, List.zip_cons_cons]
    unfold putF
    first
      | rw [if_neg hne, putF_zip (List.nodup_cons.mp nd).2 h1]
      | rw [if_neg hne', putF_zip (List.nodup_cons.mp nd).2 h1]
theorem ds_fld {c j i : Nat} {C : Addr} {ns : List Str} {fn : Str} (hce : ce c = some (C, ns)) (hj : ns[j]? = some fn) (nd : ns.Nodup) (hl : ns.length < 1000) (cl : Cls K C) (na : NoAttr K C fn) (x : DenV K ce W te f) :
    DenS K ce W z (sFld K (tVar i) te fn) (sFldS c j i f) := fun s0 H0 F0 Γ σ F H N st hh => by
  refine x Γ σ F H _ st.ev (Res.wp_mono (out_wp st hh) (fun _ z => z) fun d _ k v F1 H1 x1 r1 => ?_)
  have st1 := st.ext x1
  have k := OutOk.mono x1.sF k
  split at k
  · rename_i c' ds e
    split at k
    · rename_i hc
      obtain ⟨rfl, hdl⟩ := hc
      obtain ⟨a, o, h1, h2, h3, C', dx, ns', vs, hce', rfl, hln, h4⟩ := st1.ev.cells i _ e
      rw [hce] at hce'
      cases hce'
      have hjl : j < ns.length := (List.getElem?_eq_some_iff.mp hj).1
      have hvl : vs.length = j := by rw [h4.length]; exact hdl
      refine ⟨_, h1, a, C, dx, _, rfl, h3, cl, na, ?_, ?_⟩
      · rw [List.length_zip]; omega
      · rw [putF_zip nd (by rw [hvl]; exact hj)]
        refine k σ F1 _ (st1.write e h1 h2 ⟨C, dx, ns, _, hce, rfl, ?_, h4.app (.cons r1 .nil)⟩) (.refl _)
        rw [List.length_append, List.length_singleton, hdl]
        exact hjl
    · exact k.elim
  · exact k.elim
end
end FL

/-! FL7: calls of defs, methods, classes; a def's promise from its body; several names at once. -/
namespace FL
open PySem PySem.Spec PyProof.Rows L2

/-- the arguments: true: what the callee is promised of it is its own object alone -/
def ArgsOk (K : PySem.W.Frag) (ce : CE) (F H : Hp) : List Bool → List D → List V → Prop
  | _, [], vs => vs = []
  | m :: ms, d :: ds, vs => ∃ v r, vs = v :: r ∧ (if m = true then BRep K ce F H d v else Rep K ce F d v) ∧ ArgsOk K ce F H ms ds r
  | [], _ :: _, _ => False
def exV (ce : CE) (e : Exn) : Value := match ce e.c with
  | some (C, _) => .ref C
  | none => .none
/-- what a callee's exception is to meet -/
def ExW (ce : CE) (E : XK) (H : Hp) (e : Exn) : Prop := ∀ H', Same H H' → E (exV ce e) none H'
def wishOf (ce : CE) (E : XK) : Wish := ⟨ExW ce E, fun s h H' s' => h H' (s.trans s')⟩
/-- a def's promises: its value by M; a new object; __init__ -/
def SpV (K : PySem.W.Frag) (ce : CE) (n : Nat) (ms : List Bool) (M : List D → Res D) : Sp := fun vs H Q E => ∃ F ds, Same F H ∧ ds.length = n ∧ ArgsOk K ce F H ms ds vs ∧
  (M ds).wp (ExW ce E H) (fun d => ∀ v F' H', Ext F H F' H' → Rep K ce F' d v → Q v H')
def SpO (K : PySem.W.Frag) (ce : CE) (n : Nat) (ms : List Bool) (M : List D → Res D) : Sp := fun vs H Q E => ∃ F ds, Same F H ∧ ds.length = n ∧ ArgsOk K ce F H ms ds vs ∧
  (M ds).wp (ExW ce E H) (fun d => ∀ a o F' H', Ext F H F' H' → F' a = none → H a = none → H' a = some o → ObjRep K ce F' a d o → Q (.ref a) H')
def del (H : Hp) (a : Addr) : Hp := fun b => if b = a then none else H b
def SpI (K : PySem.W.Frag) (ce : CE) (c n : Nat) (ms : List Bool) (M : List D → Res D) : Sp := fun vs H Q E => ∃ F ds a C dx ns rest, vs = .ref a :: rest ∧ Same F H ∧ F a = none ∧ ce c = some (C, ns) ∧ H a = some (.ins C dx []) ∧ ds.length = n ∧ ArgsOk K ce F (del H a) ms ds rest ∧
  (M ds).wp (ExW ce E (del H a)) (fun d => ∀ o F' H', Ext F (del H a) F' H' → F' a = none → H' a = some o → ObjRep K ce F' a d o → Q .non H')

section
variable {K : PySem.W.Frag} {ce : CE} {W : Wish} {F H : Hp}
theorem ArgsOk.length : ∀ {ms : List Bool} {ds : List D} {vs : List V}, ArgsOk K ce F H ms ds vs → vs.length = ds.length
  | ms, [], vs, h => by
    cases ms <;> (rw [show vs = [] from h]; rfl)
  | [], d :: ds, vs, h => h.elim
  | m :: ms, d :: ds, vs, h => by
    obtain ⟨v, r, rfl, _, h2⟩ := h
    rw [List.length_cons, List.length_cons, h2.length]
theorem ArgsOk.mono {F' H' : Hp} (s : Same F F') (t : Same H H') : ∀ {ms : List Bool} {ds : List D} {vs : List V}, ArgsOk K ce F H ms ds vs → ArgsOk K ce F' H' ms ds vs
  | ms, [], vs, h => by cases ms <;> exact h
  | [], d :: ds, vs, h => h.elim
  | m :: ms, d :: ds, vs, h => by
    obtain ⟨v, r, rfl, h1, h2⟩ := h
    refine ⟨v, r, rfl, ?_, h2.mono s t⟩
    cases m with
    | true => rw [if_pos rfl] at h1 ⊢; exact BRep.mono s t _ _ h1
    | false => rw [if_neg Bool.false_ne_true] at h1 ⊢; exact Rep.mono s _ _ h1
end

/-- arguments of a call -/
def DenM (K : PySem.W.Frag) (ce : CE) (W : Wish) (n : Nat) (ms : List Bool) (t : TA) (f : Slots → Res (List D)) : Prop := ∀ (Γ : Slots) (σ : L2.St) (F H : Hp) (Q : List V → Hp → Prop), Ev K ce Γ σ F H →
  (f Γ).wp (W.W H) (fun ds => ∀ vs F' H', Ext F H F' H' → ds.length = n → ArgsOk K ce F' H' ms ds vs → Q vs H') → t σ H Q
section
variable {K : PySem.W.Frag} {ce : CE} {W : Wish} {F H : Hp} {t ta tb tc : TE} {f g h : EFn} {tA : TA} {fs : Slots → Res (List D)} {n : Nat} {ms : List Bool}
theorem dm_nil : DenM K ce W 0 [] tNil aNil := fun Γ σ F H Q ev h => h [] F H (.refl ev.sub) rfl rfl
theorem dm_v (x : DenV K ce W ta f) (y : DenM K ce W n ms tA fs) : DenM K ce W (n + 1) (false :: ms) (tCons ta tA) (aCons f fs) := fun Γ σ F H Q ev h => by
  refine x Γ σ F H _ ev (Res.wp_mono (Res.wp_bind h) (fun _ z => z) fun d _ k v F' H' e r => ?_)
  refine y Γ σ F' H' _ (ev.ext e) (Res.wp_mono (Res.wp_bind k) (fun _ z => W.mono e.sH z) fun ds _ k2 vs F2 H2 e2 hl r2 => ?_)
  exact k2 (v :: vs) F2 H2 (e.trans e2) (by rw [List.length_cons, hl]) ⟨v, vs, rfl, by rw [if_neg Bool.false_ne_true]; exact Rep.mono e2.sF _ _ r, r2⟩
theorem dm_b (x : DenB K ce W ta f) (y : DenM K ce W n ms tA fs) : DenM K ce W (n + 1) (true :: ms) (tCons ta tA) (aCons f fs) := fun Γ σ F H Q ev h => by
  refine x Γ σ F H _ ev (Res.wp_mono (Res.wp_bind h) (fun _ z => z) fun d _ k v F' H' e r => ?_)
  refine y Γ σ F' H' _ (ev.ext e) (Res.wp_mono (Res.wp_bind k) (fun _ z => W.mono e.sH z) fun ds _ k2 vs F2 H2 e2 hl r2 => ?_)
  exact k2 (v :: vs) F2 H2 (e.trans e2) (by rw [List.length_cons, hl]) ⟨v, vs, rfl, by rw [if_pos rfl]; exact BRep.mono e2.sF e2.sH _ _ r, r2⟩
theorem den_call {M : List D → Res D} {E : XK} (hW : ∀ H e, W.W H e → ExW ce E H e) (x : DenM K ce W n ms tA fs) : DenV K ce W (tCall (SpV K ce n ms M) [] E tA) (eN M fs) := fun Γ σ F H Q ev h => by
  refine x Γ σ F H _ ev (Res.wp_mono (Res.wp_bind h) (fun _ z => z) fun ds _ k vs F' H' e hl r => ?_)
  rw [List.append_nil]
  exact ⟨F', ds, e.sub, hl, r, Res.wp_mono k (fun c z => hW _ _ (W.mono e.sH z)) fun d _ k2 v F2 H2 e2 r2 => k2 v F2 H2 (e.trans e2) r2⟩
theorem den_callO {M : List D → Res D} {E : XK} (hW : ∀ H e, W.W H e → ExW ce E H e) (x : DenM K ce W n ms tA fs) : DenF K ce W (tCall (SpO K ce n ms M) [] E tA) (eN M fs) := fun Γ σ F H Q ev h => by
  refine x Γ σ F H _ ev (Res.wp_mono (Res.wp_bind h) (fun _ z => z) fun ds _ k vs F' H' e hl r => ?_)
  rw [List.append_nil]
  exact ⟨F', ds, e.sub, hl, r, Res.wp_mono k (fun c z => hW _ _ (W.mono e.sH z)) fun d _ k2 a o F2 H2 e2 hF hN hH r2 => k2 a o F2 H2 (e.trans e2) hF (e.sH.free hN) hH r2⟩
/-- o.m(..) -/
def isC (c : Nat) : D → Bool
  | .ins c' _ => decide (c' = c)
  | _ => false
def eMeth (c : Nat) (M : List D → Res D) (f : EFn) (fs : Slots → Res (List D)) : EFn := fun Γ => (f Γ).bind fun a => if isC c a = true then (fs Γ).bind fun ds => M (a :: ds) else .stuck
theorem isC_ins {c : Nat} {d : D} {v : V} {C : Addr} {ns : List Str} (hce : ce c = some (C, ns)) (e : isC c d = true) (h : BRep K ce F H d v) : ∃ a dx vs, v = .ref a ∧ H a = some (.ins C dx (ns.zip vs)) := by
  cases d <;> unfold isC at e
  case ins c' ds =>
    have e' : c' = c := of_decide_eq_true e
    subst e'
    obtain ⟨a, C', dx, ns', vs, rfl, h1, h2, _⟩ := h
    rw [hce] at h1
    cases h1
    exact ⟨a, dx, vs, rfl, h2⟩
  all_goals cases e
theorem den_meth {M : List D → Res D} {E : XK} {c : Nat} {C : Addr} {ns : List Str} {m : Str} (hce : ce c = some (C, ns)) (hm : m ∉ ns) (hW : ∀ H e, W.W H e → ExW ce E H e) (y : DenV K ce W ta f) (x : DenM K ce W n ms tA fs) :
    DenV K ce W (tMeth C m (SpV K ce (n + 1) (false :: ms) M) [] E ta tA) (eMeth c M f fs) := fun Γ σ F H Q ev h => by
  refine y Γ σ F H _ ev (Res.wp_mono (Res.wp_bind h) (fun _ z => z) fun a _ k v F1 H1 x1 r1 => ?_)
  split at k
  · rename_i hc
    obtain ⟨b, dx, vs, rfl, hb⟩ := isC_ins hce hc (r1.b x1.sub)
    refine ⟨b, dx, _, rfl, hb, zip_none hm, x Γ σ F1 H1 _ (ev.ext x1) (Res.wp_mono (Res.wp_bind k) (fun _ z => W.mono x1.sH z) fun ds _ k us F' H' e hl r => ?_)⟩
    rw [List.append_nil]
    exact ⟨F', a :: ds, e.sub, by rw [List.length_cons, hl], ⟨_, us, rfl, by rw [if_neg Bool.false_ne_true]; exact Rep.mono e.sF _ _ r1, r⟩,
      Res.wp_mono k (fun c z => hW _ _ (W.mono (x1.trans e).sH z)) fun d _ k2 v F2 H2 e2 r2 => k2 v F2 H2 (x1.trans (e.trans e2)) r2⟩
  · exact k.elim
theorem den_methO {M : List D → Res D} {E : XK} {c : Nat} {C : Addr} {ns : List Str} {m : Str} (hce : ce c = some (C, ns)) (hm : m ∉ ns) (hW : ∀ H e, W.W H e → ExW ce E H e) (y : DenV K ce W ta f) (x : DenM K ce W n ms tA fs) :
    DenF K ce W (tMeth C m (SpO K ce (n + 1) (false :: ms) M) [] E ta tA) (eMeth c M f fs) := fun Γ σ F H Q ev h => by
  refine y Γ σ F H _ ev (Res.wp_mono (Res.wp_bind h) (fun _ z => z) fun a _ k v F1 H1 x1 r1 => ?_)
  split at k
  · rename_i hc
    obtain ⟨b, dx, vs, rfl, hb⟩ := isC_ins hce hc (r1.b x1.sub)
    refine ⟨b, dx, _, rfl, hb, zip_none hm, x Γ σ F1 H1 _ (ev.ext x1) (Res.wp_mono (Res.wp_bind k) (fun _ z => W.mono x1.sH z) fun ds _ k us F' H' e hl r => ?_)⟩
    rw [List.append_nil]
    exact ⟨F', a :: ds, e.sub, by rw [List.length_cons, hl], ⟨_, us, rfl, by rw [if_neg Bool.false_ne_true]; exact Rep.mono e.sF _ _ r1, r⟩,
      Res.wp_mono k (fun c z => hW _ _ (W.mono (x1.trans e).sH z)) fun d _ k2 a o F2 H2 e2 hF hN hH r2 => k2 a o F2 H2 (x1.trans (e.trans e2)) hF ((x1.trans e).sH.free hN) hH r2⟩
  · exact k.elim
theorem del_same {a : Addr} {o : HO} (h : H a = none) {dx : Addr} {u : HO} (hd : H dx = none) (ne : dx ≠ a) : Same H (del (upd (upd H dx u) a o) a) := fun b x e => by
  have h1 : b ≠ a := ne_of_none e h
  have h2 : b ≠ dx := ne_of_none e hd
  unfold del
  rw [if_neg h1, upd_ne h1, upd_ne h2]
  exact e
/-- C(..) -/
theorem den_make {M : List D → Res D} {E : XK} {c : Nat} {C : Addr} {ns : List Str} (hce : ce c = some (C, ns)) (hW : ∀ H e, W.W H e → ExW ce E H e) (x : DenM K ce W n ms tA fs) :
    DenF K ce W (tMake C (SpI K ce c n ms M) [] E tA) (eN M fs) := fun Γ σ F H Q ev h => by
  refine x Γ σ F H _ ev (Res.wp_mono (Res.wp_bind h) (fun _ z => z) fun ds _ k vs F1 H1 e hl r => ?_)
  intro p dx hp hdx hne
  rw [List.append_nil]
  have hF : F1 p = none := e.sub.free hp
  have hs : Same H1 (del (upd (upd H1 dx (.own p)) p (.ins C dx [])) p) := del_same hp hdx hne
  have hs2 : Same F1 (upd (upd H1 dx (.own p)) p (.ins C dx [])) := fun b o q => by
    have q1 := e.sub _ _ q
    rw [upd_ne (ne_of_none q1 hp), upd_ne (ne_of_none q1 hdx)]
    exact q1
  refine ⟨F1, ds, p, C, dx, ns, vs, rfl, hs2, hF, hce, upd_same, hl, r.mono (.refl _) hs, Res.wp_mono k (fun c z => hW _ _ (W.mono (e.sH.trans hs) z)) fun d _ k2 o F2 H2 x2 hF2 hH2 r2 => ⟨rfl, ?_⟩⟩
  have y : Ext F1 H1 F2 H2 := ⟨x2.sF, hs.trans x2.sH, x2.sub, fun b hb hb' => hs.free (x2.new b hb hb')⟩
  exact k2 p o F2 H2 (e.trans y) hF2 (e.sH.free hp) hH2 r2
end

/-! ### a def's promise from its body -/
def cells : List Bool → List D → Slots
  | m :: ms, d :: ds => (if m = true then .bor d else .val d) :: cells ms ds
  | _, _ => []
def initG (N : Nat) (ms : List Bool) (ds : List D) : Slots := cells ms ds ++ List.replicate (N - ds.length) .no
def outV : Out → Res D
  | .nx _ => .ok .non
  | .rt d => .ok d
  | .ro d => .ok d
  | _ => .stuck
def outO : Out → Res D
  | .ro d => .ok d
  | _ => .stuck
def outI : Out → Res D
  | .nx Γ => match (Γ : List Cel)[0]? with
    | some (Cel.own d) => .ok d
    | _ => .stuck
  | _ => .stuck
/-- a def by its body -/
def runV (N : Nat) (ms : List Bool) (g : SFn) : List D → Res D := fun ds => outV (g (initG N ms ds))
def runO (N : Nat) (ms : List Bool) (g : SFn) : List D → Res D := fun ds => outO (g (initG N ms ds))
def runI (c N : Nat) (ms : List Bool) (g : SFn) : List D → Res D := fun ds => outI (g (.own (.ins c []) :: initG (N - 1) ms ds))
section
variable {P : Program} {w : World} {K : PySem.W.Frag} {mg : Str → Option Value} {base : Heap} {ce : CE}
theorem args_cells {F H : Hp} : ∀ {ms : List Bool} {ds : List D} {vs : List V}, ArgsOk K ce F H ms ds vs → (cells ms ds).length = ds.length ∧ ∀ (i : Nat) (c : Cel), (cells ms ds)[i]? = some c → CelOk K ce F H c (vs.map some)[i]? ∧ ∃ d, c = .val d ∨ c = .bor d
  | ms, [], vs, h => by
    have e : cells ms [] = [] := by cases ms <;> rfl
    rw [e]
    exact ⟨rfl, fun i c q => by simp at q⟩
  | [], d :: ds, vs, h => h.elim
  | m :: ms, d :: ds, vs, h => by
    obtain ⟨v, r, rfl, h1, h2⟩ := h
    obtain ⟨l, g⟩ := args_cells h2
    refine ⟨by unfold cells; rw [List.length_cons, List.length_cons, l], fun i c q => ?_⟩
    cases i with
    | zero =>
      unfold cells at q
      simp only [List.getElem?_cons_zero, Option.some.injEq] at q
      subst q
      cases m with
      | true => rw [if_pos rfl] at h1; exact ⟨⟨v, rfl, h1⟩, d, .inr rfl⟩
      | false => rw [if_neg Bool.false_ne_true] at h1; exact ⟨⟨v, rfl, h1⟩, d, .inl rfl⟩
    | succ i =>
      unfold cells at q
      simp only [List.getElem?_cons_succ] at q
      obtain ⟨g1, g2⟩ := g i c q
      exact ⟨by simpa using g1, g2⟩
theorem init_get {N : Nat} {ms : List Bool} {ds : List D} {F H : Hp} {vs : List V} (h : ArgsOk K ce F H ms ds vs) (i : Nat) (c : Cel) (q : (initG N ms ds)[i]? = some c) :
    c = .no ∨ (CelOk K ce F H c (vs.map some ++ List.replicate (N - vs.length) none)[i]? ∧ ∃ d, c = .val d ∨ c = .bor d) := by
  obtain ⟨l, g⟩ := args_cells h
  unfold initG at q
  by_cases hi : i < ds.length
  · rw [List.getElem?_append_left (by rw [l]; exact hi)] at q
    obtain ⟨g1, g2⟩ := g i c q
    refine .inr ⟨?_, g2⟩
    rw [List.getElem?_append_left (by rw [List.length_map, h.length]; exact hi)]
    exact g1
  · rw [List.getElem?_append_right (by rw [l]; omega)] at q
    have := List.mem_of_getElem? q
    exact .inl (List.eq_of_mem_replicate this)
theorem init_len {N : Nat} {ms : List Bool} {ds : List D} {F H : Hp} {vs : List V} (h : ArgsOk K ce F H ms ds vs) : (initG N ms ds).length = (vs.map some ++ List.replicate (N - vs.length) (none : Option V)).length := by
  obtain ⟨l, _⟩ := args_cells h
  unfold initG
  rw [List.length_append, List.length_append, List.length_replicate, List.length_replicate, l, List.length_map, h.length]
theorem sta_init {N : Nat} {ms : List Bool} {ds : List D} {F H : Hp} {vs : List V} {s0 : Option (Option V)} (s : Same F H) (h : ArgsOk K ce F H ms ds vs) :
    Sta K ce none s0 H F (initG N ms ds) (vs.map some ++ List.replicate (N - vs.length) none) F H := by
  have nown : ∀ (i : Nat) (d : D), (initG N ms ds)[i]? = some (.own d) → False := fun i d e => by
    rcases init_get h i _ e with q | ⟨_, d', q | q⟩ <;> cases q
  refine ⟨⟨s, fun i c e => ?_, init_len h⟩, .refl s, fun i d a e _ => (nown i d e).elim, fun i j d e a _ h1 _ _ _ => (nown i d h1).elim, fun i d e => ?_, fun _ z => nomatch z⟩
  · rcases init_get h i c e with rfl | ⟨q, _⟩
    · trivial
    · exact q
  · rcases init_get h i _ e with q | ⟨q, _⟩
    · cases q
    · exact q
/-- THE RULES for a def -/
theorem fn_ok {x qual : Str} {st : Stmt} {f : Addr} {fd : FuncData} {N ps : List Str} {k : Nat} {ms : List Bool} {g : SFn} (Fn : Fun K x qual st f fd) (S : FnScope N ps (defScope st))
    (hbody : ∀ (cdv : Value) (A : Around) (outer : List PySem.Env) (s : Shared) (H : Hp) (E : XK), Room k (A.deeper (envOfC qual (defScope st) s.heap.objs.size f cdv)) →
      ∃ t, PSs (cxOf CX0 P w K mg base N qual (defScope st) f cdv A outer s H E).nox (defBody st) t ∧ DenS K ce .none none t g) :
    FnOk P w K mg base CX0 (k + 1) f fd ps (SpV K ce ps.length ms (runV N.length ms g)) := by
  refine Fn.ok S (fun vs H Q E h => ?_) (fun cdv A outer s H vs Q E hr h => ?_)
  · obtain ⟨F, ds, _, hl, ha, _⟩ := h
    rw [ha.length, hl]
  · obtain ⟨t, hp, hd⟩ := hbody cdv A outer s H E hr
    obtain ⟨F, ds, hs, hl, ha, hw⟩ := h
    refine ⟨t, hp, hd none H F (initG N.length ms ds) _ F H _ (sta_init hs ha) ?_⟩
    unfold runV at hw
    cases q : g (initG N.length ms ds) with
    | nx Γ => rw [q] at hw; exact fun σ F' H' st _ => hw _ F' H' st.x rNon
    | rt d => rw [q] at hw; exact hw
    | ro d =>
      rw [q] at hw
      intro a o F' H' x hF h0 hH r
      obtain ⟨s1, s2⟩ := Ext.freeze x.sub hF hH
      refine hw (.ref a) (upd F' a o) H' ⟨x.sF.trans s1, x.sH, s2, fun b hb hb' => ?_⟩ ((r.mono s1).r upd_same)
      by_cases z : b = a
      · subst z; exact h0
      · rw [upd_ne z] at hb'; exact x.new b hb hb'
    | exc e => rw [q] at hw; exact hw.elim
    | rc cs => rw [q] at hw; exact hw.elim
    | bk Γ => rw [q] at hw; exact hw.elim
    | ct Γ => rw [q] at hw; exact hw.elim
    | stuck => rw [q] at hw; exact hw.elim
theorem fn_okO {x qual : Str} {st : Stmt} {f : Addr} {fd : FuncData} {N ps : List Str} {k : Nat} {ms : List Bool} {g : SFn} (Fn : Fun K x qual st f fd) (S : FnScope N ps (defScope st))
    (hbody : ∀ (cdv : Value) (A : Around) (outer : List PySem.Env) (s : Shared) (H : Hp) (E : XK), Room k (A.deeper (envOfC qual (defScope st) s.heap.objs.size f cdv)) →
      ∃ t, PSs (cxOf CX0 P w K mg base N qual (defScope st) f cdv A outer s H E).nox (defBody st) t ∧ DenS K ce .none none t g) :
    FnOk P w K mg base CX0 (k + 1) f fd ps (SpO K ce ps.length ms (runO N.length ms g)) := by
  refine Fn.ok S (fun vs H Q E h => ?_) (fun cdv A outer s H vs Q E hr h => ?_)
  · obtain ⟨F, ds, _, hl, ha, _⟩ := h
    rw [ha.length, hl]
  · obtain ⟨t, hp, hd⟩ := hbody cdv A outer s H E hr
    obtain ⟨F, ds, hs, hl, ha, hw⟩ := h
    refine ⟨t, hp, hd none H F (initG N.length ms ds) _ F H _ (sta_init hs ha) ?_⟩
    unfold runO at hw
    cases q : g (initG N.length ms ds) with
    | nx Γ => rw [q] at hw; exact hw.elim
    | rt d => rw [q] at hw; exact hw.elim
    | ro d => rw [q] at hw; exact hw
    | rc cs => rw [q] at hw; exact hw.elim
    | exc e => rw [q] at hw; exact hw.elim
    | bk Γ => rw [q] at hw; exact hw.elim
    | ct Γ => rw [q] at hw; exact hw.elim
    | stuck => rw [q] at hw; exact hw.elim
theorem sta_initI {c N : Nat} {ms : List Bool} {ds : List D} {F H : Hp} {vs : List V} {a C dx : Addr} {ns : List Str} (s : Same F H) (hF : F a = none) (hce : ce c = some (C, ns)) (hH : H a = some (.ins C dx [])) (h : ArgsOk K ce F (del H a) ms ds vs) :
    Sta K ce (some 0) (some (some (.ref a))) (del H a) F (.own (.ins c []) :: initG N ms ds) (some (.ref a) :: (vs.map some ++ List.replicate (N - vs.length) none)) F H := by
  have hd : del H a a = none := by unfold del; rw [if_pos rfl]
  have sd : Same (del H a) H := fun b o e => by
    unfold del at e
    split at e
    · cases e
    · exact e
  have sF : Same F (del H a) := fun b o e => by
    have ne : b ≠ a := ne_of_none e hF
    unfold del
    rw [if_neg ne]
    exact s _ _ e
  have nown : ∀ (i : Nat) (d : D), (initG N ms ds)[i]? = some (.own d) → False := fun i d e => by
    rcases init_get h i _ e with q | ⟨_, d', q | q⟩ <;> cases q
  have up : ∀ {c : Cel} {s : Option (Option V)}, (∃ d, c = .val d ∨ c = .bor d) → CelOk K ce F (del H a) c s → CelOk K ce F H c s := fun {c s'} hc q => by
    obtain ⟨d, rfl | rfl⟩ := hc
    · exact q
    · obtain ⟨v, h1, h2⟩ := q
      exact ⟨v, h1, BRep.mono (.refl _) sd _ _ h2⟩
  refine ⟨⟨s, fun i c' e => ?_, by rw [List.length_cons, List.length_cons, init_len h]⟩, ⟨.refl _, sd, s, fun b hb hb' => (hb' hb).elim⟩, fun i d b e e2 => ?_, fun i j d e b ne h1 h2 _ _ => ?_, fun i d e => ?_, fun k q => by cases q; rfl⟩
  · cases i with
    | zero =>
      simp only [List.getElem?_cons_zero, Option.some.injEq] at e
      subst e
      exact ⟨a, _, rfl, hF, hH, C, dx, ns, [], hce, by rw [List.zip_nil_right], Nat.zero_le _, .nil⟩
    | succ i =>
      simp only [List.getElem?_cons_succ] at e ⊢
      rcases init_get h i c' e with rfl | ⟨q, hc⟩
      · trivial
      · exact up hc q
  · cases i with
    | zero =>
      simp only [List.getElem?_cons_zero, Option.some.injEq] at e2
      cases e2
      exact hd
    | succ i =>
      simp only [List.getElem?_cons_succ] at e
      exact (nown i d e).elim
  · cases i with
    | zero =>
      cases j with
      | zero => exact ne rfl
      | succ j => simp only [List.getElem?_cons_succ] at h2; exact nown j e h2
    | succ i => simp only [List.getElem?_cons_succ] at h1; exact nown i d h1
  · cases i with
    | zero => simp at e
    | succ i =>
      simp only [List.getElem?_cons_succ] at e ⊢
      rcases init_get h i _ e with q | ⟨q, _⟩
      · cases q
      · exact q
theorem fn_okI {x qual : Str} {st : Stmt} {f : Addr} {fd : FuncData} {N ps : List Str} {self : Str} {k c : Nat} {ms : List Bool} {g : SFn} (Fn : Fun K x qual st f fd) (S : FnScope (self :: N) (self :: ps) (defScope st))
    (hbody : ∀ (cdv : Value) (A : Around) (outer : List PySem.Env) (s : Shared) (H : Hp) (E : XK), Room k (A.deeper (envOfC qual (defScope st) s.heap.objs.size f cdv)) →
      ∃ t, PSs (cxOf CX0 P w K mg base (self :: N) qual (defScope st) f cdv A outer s H E).nox (defBody st) t ∧ DenS K ce .none (some 0) t g) :
    FnOk P w K mg base CX0 (k + 1) f fd (self :: ps) (SpI K ce c ps.length ms (runI c (N.length + 1) ms g)) := by
  refine Fn.ok S (fun vs H Q E h => ?_) (fun cdv A outer s H vs Q E hr h => ?_)
  · obtain ⟨F, ds, a, C, dx, ns, rest, rfl, _, _, _, _, hl, ha, _⟩ := h
    rw [List.length_cons, List.length_cons, ha.length, hl]
  · obtain ⟨t, hp, hd⟩ := hbody cdv A outer s H E hr
    obtain ⟨F, ds, a, C, dx, ns, rest, rfl, hs, hF, hce, hH, hl, ha, hw⟩ := h
    refine ⟨t, hp, ?_⟩
    have e : L2.start (self :: N) (V.ref a :: rest) = some (.ref a) :: (rest.map some ++ List.replicate (N.length - rest.length) none) := by
      unfold L2.start
      rw [List.map_cons, List.length_cons, List.length_cons, Nat.add_sub_add_right, List.cons_append]
    rw [e]
    refine hd _ (del H a) F (.own (.ins c []) :: initG N.length ms ds) _ F H _ (sta_initI hs hF hce hH ha) ?_
    unfold runI at hw
    rw [Nat.add_sub_cancel] at hw
    cases q : g (.own (.ins c []) :: initG N.length ms ds) with
    | nx Γ =>
      rw [q] at hw
      intro σ F' H' st _
      unfold outI at hw
      simp only at hw
      split at hw
      · rename_i d ed
        obtain ⟨b, o, h1, h2, h3, h4⟩ := st.ev.cells 0 _ ed
        have h5 := st.slf 0 rfl
        rw [h1] at h5
        cases h5
        exact hw o F' H' st.x h2 h3 h4
      · exact hw.elim
    | rt d => rw [q] at hw; exact hw.elim
    | ro d => rw [q] at hw; exact hw.elim
    | rc cs => rw [q] at hw; exact hw.elim
    | exc e => rw [q] at hw; exact hw.elim
    | bk Γ => rw [q] at hw; exact hw.elim
    | ct Γ => rw [q] at hw; exact hw.elim
    | stuck => rw [q] at hw; exact hw.elim
end

/-! ### a, b = x, y -/
def DenL (K : PySem.W.Frag) (ce : CE) (W : Wish) (t : TA) (f : Slots → Res (List Cel)) : Prop := ∀ (Γ : Slots) (σ : L2.St) (F H : Hp) (Q : List V → Hp → Prop), Ev K ce Γ σ F H →
  (f Γ).wp (W.W H) (fun cs => ∀ vs F' H', Ext F H F' H' → CelsOk K ce H F' H' cs vs → Q vs H') → t σ H Q
def lNil : Slots → Res (List Cel) := fun _ => .ok []
def lVal (f : EFn) (fs : Slots → Res (List Cel)) : Slots → Res (List Cel) := fun Γ => (f Γ).bind fun d => (fs Γ).bind fun ds => .ok (.val d :: ds)
def lOwn (f : EFn) (fs : Slots → Res (List Cel)) : Slots → Res (List Cel) := fun Γ => (f Γ).bind fun d => (fs Γ).bind fun ds => .ok (.own d :: ds)
def setAll (Γ : Slots) : List Nat → List Cel → Slots
  | i :: is, c :: cs => setAll (Γ.set i c) is cs
  | _, _ => Γ
def sPar (is : List Nat) (fs : Slots → Res (List Cel)) : SFn := fun Γ => thenR (fs Γ) fun cs => if cs.length = is.length then .nx (setAll Γ is cs) else .stuck
section
variable {K : PySem.W.Frag} {ce : CE} {W : Wish} {z : Option Nat} {s0 : Option (Option V)} {H0 F0 F H : Hp} {Γ : Slots} {σ : L2.St} {te : TE} {tA : TA} {f : EFn} {fs : Slots → Res (List Cel)}
theorem CelsOk.length : ∀ {cs : List Cel} {vs : List V}, CelsOk K ce H0 F H cs vs → vs.length = cs.length
  | [], vs, h => by rw [show vs = [] from h]; rfl
  | c :: cs, vs, h => by
    obtain ⟨v, r, rfl, _, _, h2⟩ := h
    rw [List.length_cons, List.length_cons, h2.length]
theorem CelsOk.own_new : ∀ {cs : List Cel} {vs : List V}, CelsOk K ce H0 F H cs vs → ∀ (j : Nat) (e : D), cs[j]? = some (.own e) → ∃ a, vs[j]? = some (.ref a) ∧ H0 a = none
  | [], vs, h, j, e, q => by simp at q
  | c :: cs, vs, h, 0, e, q => by
    obtain ⟨v, r, rfl, _, h1, _⟩ := h
    simp only [List.getElem?_cons_zero, Option.some.injEq] at q
    subst q
    obtain ⟨a, rfl, h2, _⟩ := h1
    exact ⟨a, rfl, h2⟩
  | c :: cs, vs, h, j + 1, e, q => by
    obtain ⟨v, r, rfl, _, _, h2⟩ := h
    simp only [List.getElem?_cons_succ] at q ⊢
    exact h2.own_new j e q
theorem CelsOk.old {H1 : Hp} (s : Same H1 H0) : ∀ {cs : List Cel} {vs : List V}, CelsOk K ce H0 F H cs vs → CelsOk K ce H1 F H cs vs
  | [], vs, h => h
  | c :: cs, vs, h => by
    obtain ⟨v, r, rfl, h1, h2, h3⟩ := h
    refine ⟨v, r, rfl, h1, ?_, h3.old s⟩
    cases c with
    | own d => obtain ⟨a, p1, p2, p3⟩ := h2; exact ⟨a, p1, s.free p2, p3⟩
    | val d => trivial
    | no => exact h2
    | bor d => exact h2
theorem dl_nil : DenL K ce W tNil lNil := fun Γ σ F H Q ev h => h [] F H (.refl ev.sub) rfl
theorem dl_v {fs : Slots → Res (List Cel)} (x : DenV K ce W te f) (y : DenL K ce W tA fs) : DenL K ce W (tCons te tA) (lVal f fs) := fun Γ σ F H Q ev h => by
  refine x Γ σ F H _ ev (Res.wp_mono (Res.wp_bind h) (fun _ z => z) fun d _ k v F' H' e r => ?_)
  refine y Γ σ F' H' _ (ev.ext e) (Res.wp_mono (Res.wp_bind k) (fun _ z => W.mono e.sH z) fun cs _ k2 vs F2 H2 e2 r2 => ?_)
  exact k2 (v :: vs) F2 H2 (e.trans e2) ⟨v, vs, rfl, ⟨v, rfl, Rep.mono e2.sF _ _ r⟩, trivial, r2.old e.sH⟩
theorem dl_o {fs : Slots → Res (List Cel)} (x : DenF K ce W te f) (y : DenL K ce W tA fs) : DenL K ce W (tCons te tA) (lOwn f fs) := fun Γ σ F H Q ev h => by
  refine x Γ σ F H _ ev (Res.wp_mono (Res.wp_bind h) (fun _ z => z) fun d _ k a o F' H' e hF hN hH r => ?_)
  refine y Γ σ F' H' _ (ev.ext e) (Res.wp_mono (Res.wp_bind k) (fun _ z => W.mono e.sH z) fun cs _ k2 vs F2 H2 e2 r2 => ?_)
  obtain ⟨p1, p2⟩ := ext_own e2 hF hH
  refine k2 (.ref a :: vs) F2 H2 (e.trans e2) ⟨_, vs, rfl, ⟨a, o, rfl, p1, p2, ObjRep.mono e2.sF _ _ r⟩, ⟨a, rfl, hN, fun j e' q1 q2 => ?_⟩, r2.old e.sH⟩
  obtain ⟨b, q3, q4⟩ := r2.own_new j e' q1
  rw [q2] at q3
  cases q3
  rw [hH] at q4
  cases q4
theorem sta_all : ∀ {is : List Nat} {cs : List Cel} {vs : List V} {Γ : Slots} {σ : L2.St}, (∀ k ∈ is, z ≠ some k) → Sta K ce z s0 H0 F0 Γ σ F H → CelsOk K ce H0 F H cs vs → cs.length = is.length →
    (∀ (i j : Nat) (d e : D) (a : Addr), Γ[i]? = some (.own d) → σ[i]? = some (some (.ref a)) → cs[j]? = some (.own e) → vs[j]? ≠ some (.ref a)) →
    Sta K ce z s0 H0 F0 (setAll Γ is cs) ((is.zip vs).foldl (fun s p => s.set p.1 (some p.2)) σ) F H
  | [], cs, vs, Γ, σ, hz, st, h, hl, hs => by
    have e : setAll Γ [] cs = Γ := by cases cs <;> rfl
    rw [e]
    exact st
  | i :: is, [], vs, Γ, σ, hz, st, h, hl, hs => by simp at hl
  | i :: is, c :: cs, vs, Γ, σ, hz, st, h, hl, hs => by
    obtain ⟨v, r, rfl, h1, h2, h3⟩ := h
    have hz1 : z ≠ some i := hz i List.mem_cons_self
    have hz2 : ∀ k ∈ is, z ≠ some k := fun k q => hz k (List.mem_cons_of_mem _ q)
    have hl' : cs.length = is.length := by simpa using hl
    have hlen : Γ.length = σ.length := st.ev.len
    have at_i : ∀ (c c' : Cel), (Γ.set i c)[i]? = some c' → c' = c ∧ i < σ.length := fun c c' e => by
      by_cases q : i < Γ.length
      · rw [List.getElem?_set_self q] at e
        cases e
        exact ⟨rfl, by rw [← hlen]; exact q⟩
      · rw [List.getElem?_eq_none (by simpa using q)] at e
        cases e
    show Sta K ce z s0 H0 F0 (setAll (Γ.set i c) is cs) ((is.zip r).foldl (fun s p => s.set p.1 (some p.2)) (σ.set i (some v))) F H
    cases c with
    | val d =>
      obtain ⟨v', e', rr⟩ := h1
      cases e'
      refine sta_all hz2 (Sta.setV hz1 st rr) h3 hl' fun j k d' e a q1 q2 q3 q4 => ?_
      by_cases hj : i = j
      · subst hj
        obtain ⟨q, _⟩ := at_i _ _ q1
        cases q
      · rw [List.getElem?_set_ne hj] at q1 q2
        exact hs j (k + 1) d' e a q1 q2 (by simpa using q3) (by simpa using q4)
    | own d =>
      obtain ⟨a, o, e', p1, p2, p3⟩ := h1
      cases e'
      obtain ⟨a', e', p4, p5⟩ := h2
      cases e'
      refine sta_all hz2 (Sta.setO hz1 st p1 p2 p4 (fun j e q _ q2 => hs j 0 e d a q q2 rfl rfl) p3) h3 hl' fun j k d' e b q1 q2 q3 q4 => ?_
      by_cases hj : i = j
      · subst hj
        obtain ⟨_, ql⟩ := at_i _ _ q1
        rw [List.getElem?_set_self ql] at q2
        cases q2
        exact p5 k e q3 q4
      · rw [List.getElem?_set_ne hj] at q1 q2
        exact hs j (k + 1) d' e b q1 q2 (by simpa using q3) (by simpa using q4)
    | no => exact h2.elim
    | bor d => exact h2.elim
theorem par_core {is : List Nat} {cs : List Cel} {vs : List V} {F' H' : Hp} (hz : ∀ k ∈ is, z ≠ some k) (st : Sta K ce z s0 H0 F0 Γ σ F H) (e : Ext F H F' H') (r : CelsOk K ce H F' H' cs vs) (hl : cs.length = is.length) :
    Sta K ce z s0 H0 F0 (setAll Γ is cs) ((is.zip vs).foldl (fun s p => s.set p.1 (some p.2)) σ) F' H' := by
  refine sta_all hz (st.ext e) (r.old st.x.sH) hl fun i j d e' a q1 q2 q3 q4 => ?_
  obtain ⟨b, p1, p2⟩ := r.own_new j e' q3
  rw [q4] at p1
  cases p1
  obtain ⟨c, o, p3, _, p4, _⟩ := st.ev.cells i _ q1
  rw [q2] at p3
  cases p3
  rw [p2] at p4
  cases p4
theorem ds_par (i j : Nat) (x : DenL K ce W tA fs) (hz : ∀ k ∈ [i, j], z ≠ some k := by decide) : DenS K ce W z (tPar i j tA) (sPar [i, j] fs) := fun s0 H0 F0 Γ σ F H N st hh => by
  refine x Γ σ F H _ st.ev (Res.wp_mono (out_wp st hh) (fun _ z => z) fun cs _ k vs F' H' e r => ?_)
  split at k
  · rename_i hl
    have st' := par_core hz st e r hl
    have hv := r.length
    rw [hl] at hv
    match vs, hv with
    | [v, w], _ => exact ⟨v, w, rfl, k _ F' H' st' e.sF⟩
  · exact k.elim
theorem ds_par3 (i j l : Nat) (x : DenL K ce W tA fs) (hz : ∀ k ∈ [i, j, l], z ≠ some k := by decide) : DenS K ce W z (tPar3 i j l tA) (sPar [i, j, l] fs) := fun s0 H0 F0 Γ σ F H N st hh => by
  refine x Γ σ F H _ st.ev (Res.wp_mono (out_wp st hh) (fun _ z => z) fun cs _ k vs F' H' e r => ?_)
  split at k
  · rename_i hl
    have st' := par_core hz st e r hl
    have hv := r.length
    rw [hl] at hv
    match vs, hv with
    | [u, v, w], _ => exact ⟨u, v, w, rfl, k _ F' H' st' e.sF⟩
  · exact k.elim
end
end FL

/-! FL8: chains, empty dicts, ranges as lists, several names at once by a tuple; what a caller knows of a def. -/
namespace FL
open PySem PySem.Spec PyProof.Rows L2

def eChain (o o' : D → D → Res D) (f g h : EFn) : EFn := fun Γ => (f Γ).bind fun a => (g Γ).bind fun b => ((o a b).bind asB).bind fun k => if k = true then (h Γ).bind fun c => o' b c else .ok (.bl false)
/-- range bounds that are small -/
def rgList (a b : Int) : List D := (List.range (b - a).toNat).map fun i => D.int (a + (i : Nat))
instance (a b : Int) : Decidable (RgOk a b) := by unfold RgOk; infer_instance
def lRg1 : D → Res D
  | .int b => if RgOk 0 b then .ok (.lst (rgList 0 b)) else .stuck
  | _ => .stuck
def lRg2 : D → D → Res D
  | .int a, .int b => if RgOk a b then .ok (.lst (rgList a b)) else .stuck
  | _, _ => .stuck
def tRg1 : D → Res D
  | .int b => if RgOk 0 b then .ok (.tup (rgList 0 b)) else .stuck
  | _ => .stuck
def tRg2 : D → D → Res D
  | .int a, .int b => if RgOk a b then .ok (.tup (rgList a b)) else .stuck
  | _, _ => .stuck
/-- tuple() of a list or of a tuple -/
def tupA : List D → Res D
  | [.lst xs] => .ok (.tup xs)
  | [.tup xs] => .ok (.tup xs)
  | _ => .stuck
section
variable {K : PySem.W.Frag} {ce : CE} {W : Wish} {z : Option Nat} {t ta tb tc : TE} {f g h : EFn} {o o' : D → D → Res D} {tA : TA} {fs : Slots → Res (List Cel)}
theorem asB_of {d : D} {E : Exn → Prop} {k : Bool → Prop} (h : (asB d).wp E k) : ∃ b, d = .bl b ∧ k b := by
  cases d with
  | bl b => exact ⟨b, rfl, h⟩
  | _ => exact h.elim
theorem den_chain {r r' : R2} (ho : OpDen K ce r o) (ho' : OpDen K ce r' o') (ha : DenB K ce W ta f) (hb : DenB K ce W tb g) (hc : DenB K ce W tc h) : DenV K ce W (tChain r r' ta tb tc) (eChain o o' f g h) := fun Γ σ F H Q ev hh => by
  refine ha Γ σ F H _ ev (Res.wp_mono (Res.wp_bind hh) (fun _ z => z) fun a _ h2 v F1 H1 x1 r1 => ?_)
  refine hb Γ σ F1 H1 _ (ev.ext x1) (Res.wp_mono (Res.wp_bind h2) (fun e z => W.mono x1.sH z) fun b _ h4 u F2 H2 x2 r2 => ?_)
  refine ho _ F2 H2 v u a b _ x2.sub (BRep.mono x2.sF x2.sH _ _ r1) r2 (Res.wp_mono (Res.wp_bind (Res.wp_bind h4)) (fun _ z => z) fun d _ k v' F3 H3 x3 r3 => ?_)
  obtain ⟨c, rfl, k0⟩ := asB_of k
  replace k := k0
  clear k0
  obtain rfl : v' = .bl c := by unfold Rep at r3; exact r3
  refine ⟨c, rfl, ?_⟩
  cases c with
  | true =>
    rw [if_pos rfl] at k ⊢
    refine hc Γ σ F3 H3 _ ((ev.ext x1).ext (x2.trans x3)) (Res.wp_mono (Res.wp_bind k) (fun e z => W.mono (x1.trans (x2.trans x3)).sH z) fun d _ k4 w F4 H4 x4 r4 => ?_)
    exact ho' _ F4 H4 u w b d Q x4.sub (BRep.mono (x3.trans x4).sF (x3.trans x4).sH _ _ r2) r4 (Res.wp_mono k4 (fun _ z => z) fun d' _ k5 v5 F5 H5 x5 r5 => k5 v5 F5 H5 (x1.trans (x2.trans (x3.trans (x4.trans x5)))) r5)
  | false =>
    rw [if_neg Bool.false_ne_true] at k ⊢
    exact k _ F3 H3 (x1.trans (x2.trans x3)) (rBl _)
theorem den_dnewI : DenF K ce W tDNewK (eC (.dI [])) := fun Γ σ F H Q ev h p hp => h p _ F _ (.laid ev.sub hp) (ev.sub.free hp) hp upd_same ⟨[], rfl, by unfold RepsI; rfl⟩
theorem den_dnewS : DenF K ce W tDNewK (eC (.dS [])) := fun Γ σ F H Q ev h p hp => h p _ F _ (.laid ev.sub hp) (ev.sub.free hp) hp upd_same ⟨[], rfl, by unfold RepsS; rfl⟩
theorem den_dnewT : DenF K ce W tDNewT (eC (.dT [])) := fun Γ σ F H Q ev h p hp => h p _ F _ (.laid ev.sub hp) (ev.sub.free hp) hp upd_same ⟨[], rfl, by unfold RepsT; rfl⟩
theorem rg_reps (a b : Int) {F : Hp} : Reps K ce F (rgList a b) (rgV a b) := by
  unfold rgList rgV
  generalize List.range _ = l
  induction l with
  | nil => exact .nil
  | cons n l ih => exact .cons (rInt _) ih
theorem den_listRg1 (ha : DenB K ce W ta f) : DenF K ce W (tLstRg (L2.tRg1 ta)) (e1 lRg1 f) := fun Γ σ F H Q ev h => by
  refine ha Γ σ F H _ ev (Res.wp_mono (Res.wp_bind h) (fun _ z => z) fun d _ k v F1 H1 x1 r1 => ?_)
  unfold lRg1 at k
  split at k
  · split at k
    · rename_i ok
      cases r1
      exact ⟨_, rfl, ok, fun q hq => k q _ F1 _ (x1.trans (.laid x1.sub hq)) (x1.sub.free hq) (x1.sH.free hq) upd_same ⟨_, rfl, rg_reps _ _⟩⟩
    · exact k.elim
  · exact k.elim
theorem den_tupRg1 (ha : DenB K ce W ta f) : DenF K ce W (tTupRg (L2.tRg1 ta)) (e1 FL.tRg1 f) := fun Γ σ F H Q ev h => by
  refine ha Γ σ F H _ ev (Res.wp_mono (Res.wp_bind h) (fun _ z => z) fun d _ k v F1 H1 x1 r1 => ?_)
  unfold FL.tRg1 at k
  split at k
  · split at k
    · rename_i ok
      cases r1
      exact ⟨_, rfl, ok, fun q hq => k q _ F1 _ (x1.trans (.laid x1.sub hq)) (x1.sub.free hq) (x1.sH.free hq) upd_same ⟨_, rfl, rg_reps _ _⟩⟩
    · exact k.elim
  · exact k.elim
theorem den_listRg2 (ha : DenB K ce W ta f) (hb : DenB K ce W tb g) : DenF K ce W (tLstRg (L2.tRg2 ta tb)) (e2 lRg2 f g) := fun Γ σ F H Q ev h => by
  refine ha Γ σ F H _ ev (Res.wp_mono (Res.wp_bind h) (fun _ z => z) fun d _ k v F1 H1 x1 r1 => ?_)
  refine hb Γ σ F1 H1 _ (ev.ext x1) (Res.wp_mono (Res.wp_bind k) (fun e z => W.mono x1.sH z) fun b _ k u F2 H2 x2 r2 => ?_)
  have x := x1.trans x2
  unfold lRg2 at k
  split at k
  · split at k
    · rename_i ok
      cases r1
      cases r2
      exact ⟨_, _, rfl, rfl, ok, fun q hq => k q _ F2 _ (x.trans (.laid x.sub hq)) (x.sub.free hq) (x.sH.free hq) upd_same ⟨_, rfl, rg_reps _ _⟩⟩
    · exact k.elim
  · exact k.elim
theorem den_tupRg2 (ha : DenB K ce W ta f) (hb : DenB K ce W tb g) : DenF K ce W (tTupRg (L2.tRg2 ta tb)) (e2 FL.tRg2 f g) := fun Γ σ F H Q ev h => by
  refine ha Γ σ F H _ ev (Res.wp_mono (Res.wp_bind h) (fun _ z => z) fun d _ k v F1 H1 x1 r1 => ?_)
  refine hb Γ σ F1 H1 _ (ev.ext x1) (Res.wp_mono (Res.wp_bind k) (fun e z => W.mono x1.sH z) fun b _ k u F2 H2 x2 r2 => ?_)
  have x := x1.trans x2
  unfold FL.tRg2 at k
  split at k
  · split at k
    · rename_i ok
      cases r1
      cases r2
      exact ⟨_, _, rfl, rfl, ok, fun q hq => k q _ F2 _ (x.trans (.laid x.sub hq)) (x.sub.free hq) (x.sH.free hq) upd_same ⟨_, rfl, rg_reps _ _⟩⟩
    · exact k.elim
  · exact k.elim
theorem cd_tupA : CallVDen K ce (fun xs H Q => ∃ p ys, xs = [.ref p] ∧ ((SqL K H p ys ∧ ∀ l, H l = none → Q (.ref l) (upd H l (.tup ys))) ∨ (SqT K H p ys ∧ Q (.ref p) H))) tupA := fun E F H xs ds Q s ha h => by
  unfold tupA at h
  split at h
  · obtain ⟨v, rfl, q⟩ := r1 ha
    unfold Rep at q
    obtain ⟨a, vs, rfl, hp, hv⟩ := q
    refine ⟨a, vs, rfl, .inl ⟨.of (s _ _ hp), fun l hl => h (.ref l) _ _ (.made s hl) ?_⟩⟩
    unfold Rep
    exact ⟨l, vs, rfl, upd_same, Reps.mono (sameUpd (s.free hl)) _ _ hv⟩
  · obtain ⟨v, rfl, q⟩ := r1 ha
    have q' := q
    unfold Rep at q
    obtain ⟨a, vs, rfl, hp, hv⟩ := q
    exact ⟨a, vs, rfl, .inr ⟨.of (s _ _ hp), h _ F H (.refl s) q'⟩⟩
  · exact h.elim

/-! ### names at once by a tuple -/
def gNames : List Nat → TGs
  | [] => gNil
  | i :: is => gCons (gName i) (gNames is)
theorem gNames_run : ∀ {is : List Nat} {vs : List V} {σ : L2.St} {H : Hp} {Q : L2.St → Hp → Prop}, vs.length = is.length → Q ((is.zip vs).foldl (fun s p => s.set p.1 (some p.2)) σ) H → gNames is vs σ H Q
  | [], [], σ, H, Q, _, h => ⟨rfl, h⟩
  | i :: is, v :: vs, σ, H, Q, hl, h => ⟨v, vs, rfl, gNames_run (by simpa using hl) h⟩
  | [], _ :: _, σ, H, Q, hl, h => by simp at hl
  | _ :: _, [], σ, H, Q, hl, h => by simp at hl
theorem CelsOk.later {H0 F H F' H' : Hp} (x : Ext F H F' H') : ∀ {cs : List Cel} {vs : List V}, CelsOk K ce H0 F H cs vs → CelsOk K ce H0 F' H' cs vs
  | [], vs, h => h
  | c :: cs, vs, h => by
    obtain ⟨v, r, rfl, h1, h2, h3⟩ := h
    exact ⟨v, r, rfl, h1.ext x, h2, h3.later x⟩
theorem ds_parT (is : List Nat) {tg : TG} (e : tg = gTup K is.length (gNames is)) (x : DenL K ce W tA fs) (hsm : is.length ≤ sizeLine := by decide) (hz : ∀ k ∈ is, z ≠ some k := by decide) : DenS K ce W z (tAsg (tTup tA) tg) (sPar is fs) := fun s0 H0 F0 Γ σ F H N st hh => by
  subst e
  refine x Γ σ F H _ st.ev (Res.wp_mono (out_wp st hh) (fun _ z => z) fun cs _ k vs F' H' e r => ?_)
  split at k
  · rename_i hl
    have hv := r.length
    rw [hl] at hv
    refine ⟨by rw [hv]; exact hsm, fun p hp => ⟨p, vs, rfl, .of upd_same, hv, gNames_run hv ?_⟩⟩
    have x2 : Ext F' H' F' (upd H' p (.tup vs)) := .laid e.sub hp
    exact k _ F' _ (par_core hz st (e.trans x2) (r.later x2) hl) e.sF
  · exact k.elim
end

/-! ### what is known of a def, a method, a class -/
theorem noW {ce : CE} {E : XK} (H : Hp) (e : Exn) (h : Wish.none.W H e) : ExW ce E H e := h.elim
theorem hu65 {k : Nat} {A : Around} (hr : Room k A) : A.units + 65 < cLine := by have := hr.un; omega
structure Cal (P : Program) (w : World) (K : PySem.W.Frag) (mg : Str → Option Value) (base : Heap) (x : Str) (lvl : Nat) (f : Addr) (fd : FuncData) (ps : List Str) (sp : Sp) : Prop where
  ok : FnOk P w K mg base CX0 lvl f fd ps sp
  b : Binds K fd ps []
  m : mg x = some (.ref f)
  kp : PySem.W.keepIn K (.ref f) = true
structure CalM (P : Program) (w : World) (K : PySem.W.Frag) (mg : Str → Option Value) (base : Heap) (C : Addr) (x : Str) (lvl : Nat) (f : Addr) (fd : FuncData) (ps : List Str) (sp : Sp) : Prop where
  ok : FnOk P w K mg base CX0 lvl f fd ps sp
  b : Binds K fd ps []
  m : Meth K C x f
structure CalC (P : Program) (w : World) (K : PySem.W.Frag) (mg : Str → Option Value) (base : Heap) (C : Addr) (x : Str) (lvl : Nat) (f : Addr) (fd : FuncData) (ps : List Str) (sp : Sp) : Prop where
  mak : Mk K C f
  ok : FnOk P w K mg base CX0 lvl f fd ps sp
  b : Binds K fd ps []
  m : mg x = some (.ref C)
end FL

/-! FLP: reading the denotations: plain laws of the layer, no program in sight. -/
namespace FL
open PySem L2

/-! ### one step at a time -/
section
variable {Γ Γ' : Slots} {f g h : EFn} {d : D} {i : Nat}
def seqO : Out → SFn → Out
  | .nx Γ, h => h Γ
  | .bk Γ, _ => .bk Γ
  | .ct Γ, _ => .ct Γ
  | .rt d, _ => .rt d
  | .ro d, _ => .ro d
  | .exc e, _ => .exc e
  | .stuck, _ => .stuck
  | .rc cs, _ => .rc cs
@[simp] theorem x_seq (g h : SFn) (Γ : Slots) : sSeq g h Γ = seqO (g Γ) h := by
  unfold sSeq
  cases g Γ <;> rfl
@[simp] theorem seqO_nx (h : SFn) : seqO (.nx Γ) h = h Γ := id rfl
@[simp] theorem seqO_rt (h : SFn) : seqO (.rt d) h = .rt d := id rfl
@[simp] theorem seqO_ro (h : SFn) : seqO (.ro d) h = .ro d := id rfl
@[simp] theorem seqO_rc (cs : List Cel) (h : SFn) : seqO (.rc cs) h = .rc cs := id rfl
@[simp] theorem seqO_bk (h : SFn) : seqO (.bk Γ) h = .bk Γ := id rfl
@[simp] theorem seqO_ct (h : SFn) : seqO (.ct Γ) h = .ct Γ := id rfl
@[simp] theorem seqO_stuck (h : SFn) : seqO .stuck h = .stuck := id rfl
@[simp] theorem thenR_ok {α : Type} (a : α) (k : α → Out) : thenR (.ok a) k = k a := id rfl
@[simp] theorem thenR_stuck {α : Type} (k : α → Out) : thenR (.stuck : Res α) k = .stuck := id rfl
@[simp] theorem thenG_ok (a : Slots) (k : Slots → Out) : thenG (.ok a) k = k a := id rfl
@[simp] theorem x_val (i : Nat) (f : EFn) (Γ : Slots) : sVal i f Γ = thenR (f Γ) fun d => .nx (Γ.set i (.val d)) := id rfl
@[simp] theorem x_own (i : Nat) (f : EFn) (Γ : Slots) : sOwn i f Γ = thenR (f Γ) fun d => .nx (Γ.set i (.own d)) := id rfl
@[simp] theorem x_asg (f : EFn) (h : GFn) (Γ : Slots) : sAsg f h Γ = thenR (f Γ) fun d => thenG (h d Γ) fun Γ' => .nx Γ' := id rfl
@[simp] theorem x_drop (f : EFn) (Γ : Slots) : sDrop f Γ = thenR (f Γ) fun _ => .nx Γ := id rfl
@[simp] theorem x_ret (f : EFn) (Γ : Slots) : sRet f Γ = thenR (f Γ) fun d => .rt d := id rfl
@[simp] theorem x_retO (f : EFn) (Γ : Slots) : sRetO f Γ = thenR (f Γ) fun d => .ro d := id rfl
@[simp] theorem x_retN (Γ : Slots) : sRetN Γ = .rt .non := id rfl
@[simp] theorem x_if (c : Slots → Res Bool) (g h : SFn) (Γ : Slots) : sIf c g h Γ = thenR (c Γ) fun b => if b = true then g Γ else h Γ := id rfl
@[simp] theorem x_bk (Γ : Slots) : sBk Γ = .bk Γ := id rfl
@[simp] theorem x_ct (Γ : Slots) : sCt Γ = .ct Γ := id rfl
@[simp] theorem x_nx (Γ : Slots) : sNx Γ = .nx Γ := id rfl
@[simp] theorem x_no (Γ : Slots) : sNo Γ = .stuck := id rfl
@[simp] theorem x_frz (i : Nat) (g : SFn) (Γ : Slots) : sFrz i g Γ = g (match Γ[i]? with
  | some (.own d) => Γ.set i (.val d)
  | _ => Γ) := id rfl
@[simp] theorem x_retX (i : Nat) (Γ : Slots) : sRetX i Γ = match Γ[i]? with
  | some (.own d) => .ro d
  | _ => .stuck := id rfl
@[simp] theorem x_app (i : Nat) (f : EFn) (Γ : Slots) : sApp i f Γ = match Γ[i]? with
  | some (.own (.lst xs)) => thenR (f Γ) fun d => if xs.length < sizeLine then .nx (Γ.set i (.own (.lst (xs ++ [d])))) else .stuck
  | _ => .stuck := id rfl
@[simp] theorem x_ext (i : Nat) (f : EFn) (Γ : Slots) : sExt i f Γ = match Γ[i]? with
  | some (.own (.lst xs)) => thenR (f Γ) fun d => match d with
    | .lst ys => if xs.length + ys.length ≤ sizeLine then .nx (Γ.set i (.own (.lst (xs ++ ys)))) else .stuck
    | _ => .stuck
  | _ => .stuck := id rfl
@[simp] theorem x_setI (i : Nat) (fi f : EFn) (Γ : Slots) : sSetI i fi f Γ = thenR (f Γ) fun d => match Γ[i]? with
  | some (.own (.lst xs)) => thenR (fi Γ) fun k => match k with
    | .int k => match ixN xs.length k with
      | some j => .nx (Γ.set i (.own (.lst (xs.set j d))))
      | none => .stuck
    | _ => .stuck
  | _ => .stuck := id rfl
@[simp] theorem x_put (i : Nat) (fk f : EFn) (Γ : Slots) : sPut i fk f Γ = thenR (f Γ) fun d => match Γ[i]? with
  | some (.own m) => thenR (fk Γ) fun k => thenR (dput m k d) fun m' => .nx (Γ.set i (.own m'))
  | _ => .stuck := id rfl
@[simp] theorem x_aug (o : D → D → Res D) (i : Nat) (f : EFn) (Γ : Slots) : sAug o i f Γ = match Γ[i]? with
  | some (.val a) => thenR (f Γ) fun b => thenR (o a b) fun c => .nx (Γ.set i (.val c))
  | _ => .stuck := id rfl
@[simp] theorem x_fld (c j i : Nat) (f : EFn) (Γ : Slots) : sFldS c j i f Γ = thenR (f Γ) fun d => match Γ[i]? with
  | some (.own (.ins c' ds)) => if c' = c ∧ ds.length = j then .nx (Γ.set i (.own (.ins c (ds ++ [d])))) else .stuck
  | _ => .stuck := id rfl
@[simp] theorem x_par (is : List Nat) (fs : Slots → Res (List Cel)) (Γ : Slots) : sPar is fs Γ = thenR (fs Γ) fun cs => if cs.length = is.length then .nx (setAll Γ is cs) else .stuck := id rfl
@[simp] theorem setAll_nil (cs : List Cel) : setAll Γ [] cs = Γ := by cases cs <;> rfl
@[simp] theorem setAll_cons (i : Nat) (is : List Nat) (c : Cel) (cs : List Cel) : setAll Γ (i :: is) (c :: cs) = setAll (Γ.set i c) is cs := id rfl
@[simp] theorem x_lnil (Γ : Slots) : lNil Γ = .ok [] := id rfl
@[simp] theorem x_lval (f : EFn) (fs : Slots → Res (List Cel)) (Γ : Slots) : lVal f fs Γ = (f Γ).bind fun d => (fs Γ).bind fun ds => .ok (.val d :: ds) := id rfl
@[simp] theorem x_lown (f : EFn) (fs : Slots → Res (List Cel)) (Γ : Slots) : lOwn f fs Γ = (f Γ).bind fun d => (fs Γ).bind fun ds => .ok (.own d :: ds) := id rfl
@[simp] theorem x_eV (i : Nat) (Γ : Slots) : eV i Γ = match Γ[i]? with
  | some (.val d) => .ok d
  | _ => .stuck := id rfl
@[simp] theorem x_eB (i : Nat) (Γ : Slots) : eB i Γ = match Γ[i]? with
  | some (.val d) => .ok d
  | some (.own d) => .ok d
  | some (.bor d) => .ok d
  | _ => .stuck := id rfl
@[simp] theorem x_eP (i : Nat) (Γ : Slots) : eP i Γ = match Γ[i]? with
  | some (.val d) => .ok d
  | some (.bor d) => .ok d
  | _ => .stuck := id rfl
@[simp] theorem x_eC (d : D) (Γ : Slots) : eC d Γ = .ok d := id rfl
@[simp] theorem x_e1 (o : D → Res D) (f : EFn) (Γ : Slots) : e1 o f Γ = (f Γ).bind o := id rfl
@[simp] theorem x_e2 (o : D → D → Res D) (f g : EFn) (Γ : Slots) : e2 o f g Γ = (f Γ).bind fun a => (g Γ).bind fun b => o a b := id rfl
@[simp] theorem x_aNil (Γ : Slots) : aNil Γ = .ok [] := id rfl
@[simp] theorem x_aCons (f : EFn) (fs : Slots → Res (List D)) (Γ : Slots) : aCons f fs Γ = (f Γ).bind fun d => (fs Γ).bind fun ds => .ok (d :: ds) := id rfl
@[simp] theorem x_eN (o : List D → Res D) (fs : Slots → Res (List D)) (Γ : Slots) : eN o fs Γ = (fs Γ).bind o := id rfl
@[simp] theorem x_asB (b : Bool) : asB (.bl b) = .ok b := id rfl
@[simp] theorem x_nT (f : EFn) (Γ : Slots) : nT f Γ = (f Γ).bind asB := id rfl
@[simp] theorem x_nAnd (f g : Slots → Res Bool) (Γ : Slots) : nAnd f g Γ = (f Γ).bind fun b => if b = true then g Γ else .ok false := id rfl
@[simp] theorem x_nOr (f g : Slots → Res Bool) (Γ : Slots) : nOr f g Γ = (f Γ).bind fun b => if b = true then .ok true else g Γ := id rfl
@[simp] theorem x_nNot (f : Slots → Res Bool) (Γ : Slots) : nNot f Γ = (f Γ).bind fun b => .ok (!b) := id rfl
@[simp] theorem x_eAnd (f g : EFn) (Γ : Slots) : eAnd f g Γ = ((f Γ).bind asB).bind fun b => if b = true then g Γ else .ok (.bl false) := id rfl
@[simp] theorem x_eOr (f g : EFn) (Γ : Slots) : eOr f g Γ = ((f Γ).bind asB).bind fun b => if b = true then .ok (.bl true) else g Γ := id rfl
@[simp] theorem x_eNot (f : EFn) (Γ : Slots) : eNot f Γ = ((f Γ).bind asB).bind fun b => .ok (.bl (!b)) := id rfl
@[simp] theorem x_eIf (c : Slots → Res Bool) (f g : EFn) (Γ : Slots) : eIf c f g Γ = (c Γ).bind fun b => if b = true then f Γ else g Γ := id rfl
@[simp] theorem x_eChain (o o' : D → D → Res D) (f g h : EFn) (Γ : Slots) : eChain o o' f g h Γ = (f Γ).bind fun a => (g Γ).bind fun b => ((o a b).bind asB).bind fun k => if k = true then (h Γ).bind fun c => o' b c else .ok (.bl false) := id rfl
@[simp] theorem x_eML (o : D → List D → Res D) (f : EFn) (fs : Slots → Res (List D)) (Γ : Slots) : eML o f fs Γ = (f Γ).bind fun a => if isL a = true then (fs Γ).bind fun ds => o a ds else .stuck := id rfl
@[simp] theorem x_isL (xs : List D) : isL (.lst xs) = true := id rfl
@[simp] theorem x_eMeth (c : Nat) (M : List D → Res D) (f : EFn) (fs : Slots → Res (List D)) (Γ : Slots) : eMeth c M f fs Γ = (f Γ).bind fun a => if isC c a = true then (fs Γ).bind fun ds => M (a :: ds) else .stuck := id rfl
@[simp] theorem x_isC (c : Nat) (xs : List D) : isC c (.ins c xs) = true := decide_eq_true rfl
@[simp] theorem x_iS (f : EFn) (Γ : Slots) : iS f Γ = (f Γ).bind asSeq := id rfl
@[simp] theorem x_iN (o : List D → Res (List D)) (fs : Slots → Res (List D)) (Γ : Slots) : iN o fs Γ = (fs Γ).bind o := id rfl
@[simp] theorem x_asSeqL (ds : List D) : asSeq (.lst ds) = .ok ds := id rfl
@[simp] theorem x_asSeqT (ds : List D) : asSeq (.tup ds) = .ok ds := id rfl
@[simp] theorem x_asSeqS (ns : List Int) : asSeq (.scr ns) = .ok (ns.map D.int) := id rfl
@[simp] theorem x_for (its : Slots → Res (List D)) (h : GFn) (body : SFn) (Γ : Slots) : sFor its h body Γ = thenR (its Γ) fun ds => forD h body ds Γ := id rfl
@[simp] theorem x_nYes (Γ : Slots) : nYes Γ = .ok true := id rfl
@[simp] theorem x_oNo (Γ : Slots) : oNo Γ = .ok none := id rfl
@[simp] theorem x_oAt (f : EFn) (Γ : Slots) : oAt f Γ = (f Γ).bind fun d => match d with
  | .int i => .ok (some i)
  | _ => .stuck := id rfl
@[simp] theorem x_eSl (o : D → Option Int → Option Int → Res D) (f : EFn) (l h : Slots → Res (Option Int)) (Γ : Slots) : eSl o f l h Γ = (f Γ).bind fun d => (l Γ).bind fun lo => (h Γ).bind fun hi => o d lo hi := id rfl
@[simp] theorem x_gN (i : Nat) (d : D) (Γ : Slots) : gN i d Γ = if i < Γ.length then .ok (Γ.set i (.val d)) else .stuck := id rfl
@[simp] theorem x_gsN (Γ : Slots) : gsN [] Γ = .ok Γ := id rfl
@[simp] theorem x_gsC (h : GFn) (k : GFs) (d : D) (r : List D) (Γ : Slots) : gsC h k (d :: r) Γ = (h d Γ).bind fun Γ' => k r Γ' := id rfl
@[simp] theorem x_gT (n : Nat) (k : GFs) (ds : List D) (Γ : Slots) : gT n k (.tup ds) Γ = if ds.length = n then k ds Γ else .stuck := id rfl
end

/-! ### operators -/
@[simp] theorem x_add (i j : Int) : addD (.int i) (.int j) = .ok (.int (i + j)) := id rfl
@[simp] theorem x_sub (i j : Int) : subD (.int i) (.int j) = .ok (.int (i - j)) := id rfl
theorem x_mulR (i j : Int) (h : -18446744073709551616 < j ∧ j < 18446744073709551616) : mulD (.int i) (.int j) = .ok (.int (i * j)) := if_pos (.inr h)
theorem x_mulL (i j : Int) (h : -18446744073709551616 < i ∧ i < 18446744073709551616) : mulD (.int i) (.int j) = .ok (.int (i * j)) := if_pos (.inl h)
theorem x_fdiv (i j : Int) (h : 0 < j ∧ j < 1073741824) : fdivD (.int i) (.int j) = .ok (.int (i / j)) := if_pos h
@[simp] theorem x_neg (i : Int) : negD (.int i) = .ok (.int (-i)) := id rfl
@[simp] theorem x_lt (i j : Int) : ltD (.int i) (.int j) = .ok (.bl (decide (i < j))) := id rfl
@[simp] theorem x_le (i j : Int) : leD (.int i) (.int j) = .ok (.bl (decide (i ≤ j))) := id rfl
@[simp] theorem x_gt (i j : Int) : gtD (.int i) (.int j) = .ok (.bl (decide (j < i))) := id rfl
@[simp] theorem x_ge (i j : Int) : geD (.int i) (.int j) = .ok (.bl (decide (j ≤ i))) := id rfl
@[simp] theorem x_eqB (i j : Bool) : eqB (.bl i) (.bl j) = .ok (.bl (decide (i = j))) := id rfl
@[simp] theorem x_neB (i j : Bool) : neB (.bl i) (.bl j) = .ok (.bl (!decide (i = j))) := id rfl
@[simp] theorem x_intI (i : Int) : FL.intD [.int i] = .ok (.int i) := id rfl
@[simp] theorem x_intB (i : Bool) : FL.intD [.bl i] = .ok (.int (if i then 1 else 0)) := id rfl
@[simp] theorem x_lenL (xs : List D) : lenD [.lst xs] = .ok (.int xs.length) := id rfl
@[simp] theorem x_lenT (xs : List D) : lenD [.tup xs] = .ok (.int xs.length) := id rfl
@[simp] theorem x_lenS (xs : List Int) : lenD [.scr xs] = .ok (.int xs.length) := id rfl
@[simp] theorem x_lenK (xs : List (Int × D)) : lenK [.dI xs] = .ok (.int xs.length) := id rfl
@[simp] theorem x_listL (xs : List D) : listD [.lst xs] = .ok (.lst xs) := id rfl
@[simp] theorem x_listT (xs : List D) : listD [.tup xs] = .ok (.lst xs) := id rfl
@[simp] theorem x_tupD (xs : List D) : tupD [.lst xs] = .ok (.tup xs) := id rfl
@[simp] theorem x_tupAL (xs : List D) : tupA [.lst xs] = .ok (.tup xs) := id rfl
@[simp] theorem x_tupAT (xs : List D) : tupA [.tup xs] = .ok (.tup xs) := id rfl
@[simp] theorem x_tupT (xs : List D) : tupT [.tup xs] = .ok (.tup xs) := id rfl
@[simp] theorem x_revL (xs : List D) : revL (.lst xs) = .ok (.lst xs.reverse) := id rfl
@[simp] theorem x_fld1 (c j : Nat) (ds : List D) : fldD c j (.ins c ds) = match ds[j]? with
    | some d => .ok d
    | none => .stuck := if_pos rfl
@[simp] theorem x_slLs (ns : List Int) (lo hi : Option Int) : slL (.scr ns) lo hi = .ok (.lst ((cutG ns lo hi).map D.int)) := id rfl
@[simp] theorem x_slLl (ns : List D) (lo hi : Option Int) : slL (.lst ns) lo hi = .ok (.lst (cutG ns lo hi)) := id rfl
@[simp] theorem x_mod (i j : Int) (h : 0 < j) : modD (.int i) (.int j) = .ok (.int (i % j)) := by
  show (if _ then _ else _) = _
  first | exact if_pos h | (rw [if_pos]; exact h)
theorem mkTup_ok {ds : List D} (h : ds.length ≤ 16777216) : mkTup ds = .ok (.tup ds) := if_pos (by rw [show sizeLine = 16777216 by decide]; exact h)
theorem mkLst_ok {ds : List D} (h : ds.length ≤ 16777216) : mkLst ds = .ok (.lst ds) := if_pos (by rw [show sizeLine = 16777216 by decide]; exact h)
@[simp] theorem mkTup0 : mkTup [] = .ok (.tup []) := id rfl
@[simp] theorem mkLst0 : mkLst [] = .ok (.lst []) := id rfl

/-! ### plain types among the data -/
/-- enc writes a type's values as data on which == is equality, at most n deep -/
structure EncOk {α : Type} [DecidableEq α] (enc : α → D) (n : Nat) : Prop where
  ex : ∃ p : α → PyData, (∀ a, py (enc a) = some (p a)) ∧ (∀ a, (p a).canLay0 = true) ∧ (∀ a, (p a).depth ≤ n) ∧ ∀ a b, PyData.eqv (p a) (p b) = decide (a = b)
section
variable {α : Type} [DecidableEq α] {enc : α → D} {n : Nat}
theorem encI : EncOk D.int 0 := ⟨PyData.int, fun _ => rfl, fun _ => by simp [PyData.canLay0], fun _ => by simp [PyData.depth], fun a b => by simp only [PyData.eqv]; rfl⟩
theorem pys_map {p : α → PyData} (h : ∀ a, py (enc a) = some (p a)) : ∀ xs : List α, pys (xs.map enc) = some (xs.map p)
  | [] => by simp [pys]
  | x :: xs => by simp [pys, h, pys_map h xs]
theorem canLay_map {p : α → PyData} (h : ∀ a, (p a).canLay0 = true) : ∀ xs : List α, PyData.canLayAll0 (xs.map p) = true
  | [] => by simp [PyData.canLayAll0]
  | x :: xs => by simp [PyData.canLayAll0, h, canLay_map h xs]
theorem depth_map {p : α → PyData} (h : ∀ a, (p a).depth ≤ n) : ∀ xs : List α, PyData.depthAll (xs.map p) ≤ n
  | [] => by simp [PyData.depthAll]
  | x :: xs => by
    have h1 := h x
    have h2 := depth_map h xs
    simp only [List.map_cons, PyData.depthAll]
    omega
theorem eqv_map {p : α → PyData} (h : ∀ a b, PyData.eqv (p a) (p b) = decide (a = b)) : ∀ xs ys : List α, PyData.eqvAll (xs.map p) (ys.map p) = decide (xs = ys)
  | [], [] => by simp [PyData.eqvAll]
  | x :: xs, [] => by simp [PyData.eqvAll]
  | [], y :: ys => by simp [PyData.eqvAll]
  | x :: xs, y :: ys => by simp [PyData.eqvAll, h, eqv_map h xs ys]
theorem EncOk.tup (E : EncOk enc n) : EncOk (fun xs : List α => D.tup (xs.map enc)) (n + 1) := by
  obtain ⟨p, h1, h2, h3, h4⟩ := E
  refine ⟨fun xs => .tuple (xs.map p), fun xs => by simp [py, pys_map h1], fun xs => by simp [PyData.canLay0, canLay_map h2], fun xs => ?_, fun xs ys => by simp [PyData.eqv, eqv_map h4]⟩
  have := depth_map h3 xs
  simp only [PyData.depth]
  omega
theorem EncOk.lst (E : EncOk enc n) : EncOk (fun xs : List α => D.lst (xs.map enc)) (n + 1) := by
  obtain ⟨p, h1, h2, h3, h4⟩ := E
  refine ⟨fun xs => .list (xs.map p), fun xs => by simp [py, pys_map h1], fun xs => by simp [PyData.canLay0, canLay_map h2], fun xs => ?_, fun xs ys => by simp [PyData.eqv, eqv_map h4]⟩
  have := depth_map h3 xs
  simp only [PyData.depth]
  omega
theorem shaped_of {p : PyData} {n : Nat} (h1 : p.canLay0 = true) (h2 : p.depth ≤ n) (hn : n ≤ 64) : SeqAt.shaped p = true := by
  unfold SeqAt.shaped
  rw [h1, Bool.true_and]
  exact decide_eq_true (by omega)
theorem EncOk.eq (E : EncOk enc n) (a b : α) (hn : n ≤ 64 := by decide) : eqD (enc a) (enc b) = .ok (.bl (decide (a = b))) := by
  obtain ⟨p, h1, h2, h3, h4⟩ := E
  unfold eqD
  rw [h1 a, h1 b]
  show (if _ then _ else _) = _
  rw [if_pos ⟨shaped_of (h2 a) (h3 a) hn, shaped_of (h2 b) (h3 b) hn⟩, h4]
theorem EncOk.ne (E : EncOk enc n) (a b : α) (hn : n ≤ 64 := by decide) : neD (enc a) (enc b) = .ok (.bl (!decide (a = b))) := by
  obtain ⟨p, h1, h2, h3, h4⟩ := E
  unfold neD
  rw [h1 a, h1 b]
  show (if _ then _ else _) = _
  rw [if_pos ⟨shaped_of (h2 a) (h3 a) hn, shaped_of (h2 b) (h3 b) hn⟩, h4]
theorem fndP_map {p : α → PyData} (h : ∀ a b, PyData.eqv (p a) (p b) = decide (a = b)) (a : α) : ∀ (ls : List α) (j : Nat), ls[j]? = some a → (∀ i, i < j → ls[i]? ≠ some a) → fndP (ls.map p) (p a) = some j
  | [], j, h1, h2 => by simp at h1
  | x :: ls, 0, h1, h2 => by
    simp at h1
    subst h1
    simp [fndP, h]
  | x :: ls, j + 1, h1, h2 => by
    have hx : x ≠ a := fun e => h2 0 (Nat.succ_pos _) (by rw [e]; rfl)
    have ih := fndP_map h a ls j (by simpa using h1) fun i hi e => h2 (i + 1) (by omega) (by simpa using e)
    simp [fndP, h, hx, ih]
theorem EncOk.idx (E : EncOk enc n) {ls : List α} {a : α} {j : Nat} (e : ls[j]? = some a) (f : ∀ i, i < j → ls[i]? ≠ some a) (hn : n ≤ 63 := by decide) : idxD (.lst (ls.map enc)) [enc a] = .ok (.int (j : Nat)) := by
  obtain ⟨p, h1, h2, h3, h4⟩ := E
  unfold idxD
  simp only [h1 a, pys_map h1]
  have hs : SeqAt.shaped (.list (ls.map p)) = true := shaped_of (n := n + 1) (by simp [PyData.canLay0, canLay_map h2]) (by have := depth_map h3 ls; simp only [PyData.depth]; omega) (by omega)
  rw [if_pos ⟨shaped_of (h2 a) (h3 a) (by omega), hs⟩, fndP_map h4 a ls j e f]
theorem any_map {p : α → PyData} (h : ∀ a b, PyData.eqv (p a) (p b) = decide (a = b)) (a : α) (ls : List α) : ((ls.map p).any fun z => PyData.eqv z (p a)) = decide (a ∈ ls) := by
  induction ls with
  | nil => simp
  | cons x ls ih =>
    rw [List.map_cons, List.any_cons, ih, h]
    by_cases e : x = a
    · simp [e]
    · have e' : a ≠ x := fun q => e q.symm
      simp [e, e']
theorem EncOk.mem (E : EncOk enc n) (a : α) (ls : List α) (hn : n ≤ 63 := by decide) : inDp (enc a) (.lst (ls.map enc)) = .ok (.bl (decide (a ∈ ls))) := by
  obtain ⟨p, h1, h2, h3, h4⟩ := E
  unfold inDp
  simp only [h1 a, pys_map h1]
  have hs : SeqAt.shaped (.list (ls.map p)) = true := shaped_of (n := n + 1) (by simp [PyData.canLay0, canLay_map h2]) (by have := depth_map h3 ls; simp only [PyData.depth]; omega) (by omega)
  rw [if_pos ⟨shaped_of (h2 a) (h3 a) (by omega), hs⟩, any_map h4]
theorem EncOk.nmem (E : EncOk enc n) (a : α) (ls : List α) (hn : n ≤ 63 := by decide) : ninDp (enc a) (.lst (ls.map enc)) = .ok (.bl (!decide (a ∈ ls))) := by
  obtain ⟨p, h1, h2, h3, h4⟩ := E
  unfold ninDp
  simp only [h1 a, pys_map h1]
  have hs : SeqAt.shaped (.list (ls.map p)) = true := shaped_of (n := n + 1) (by simp [PyData.canLay0, canLay_map h2]) (by have := depth_map h3 ls; simp only [PyData.depth]; omega) (by omega)
  rw [if_pos ⟨shaped_of (h2 a) (h3 a) (by omega), hs⟩, any_map h4]
end
theorem flat_ints (ns : List Int) : (ns.map D.int).all flatD = true := by
  induction ns with
  | nil => rfl
  | cons n r ih => simp [flatD, ih]
theorem any_ints (a : Int) (ns : List Int) : ((ns.map D.int).any fun z => eqF z (.int a)) = decide (a ∈ ns) := by
  induction ns with
  | nil => simp
  | cons n r ih =>
    rw [List.map_cons, List.any_cons, ih]
    by_cases e : n = a
    · simp [e, eqF]
    · have e' : a ≠ n := fun q => e q.symm
      simp [e, e', eqF]
@[simp] theorem x_inF (a : Int) (ns : List Int) : inF (.int a) (.lst (ns.map D.int)) = .ok (.bl (decide (a ∈ ns))) := by
  show (if _ then _ else _) = _
  rw [if_pos ⟨rfl, flat_ints ns⟩, any_ints]
@[simp] theorem x_ninF (a : Int) (ns : List Int) : ninF (.int a) (.lst (ns.map D.int)) = .ok (.bl (!decide (a ∈ ns))) := by
  show (if _ then _ else _) = _
  rw [if_pos ⟨rfl, flat_ints ns⟩, any_ints]
@[simp] theorem x_inFT (a : Int) (ns : List Int) : inF (.int a) (.tup (ns.map D.int)) = .ok (.bl (decide (a ∈ ns))) := by
  show (if _ then _ else _) = _
  rw [if_pos ⟨rfl, flat_ints ns⟩, any_ints]
@[simp] theorem x_asInts (ns : List Int) : asInts (ns.map D.int) = some ns := by
  induction ns with
  | nil => rfl
  | cons n r ih => simp [asInts, ih]
@[simp] theorem x_asBls (ns : List Bool) : asBls (ns.map D.bl) = some ns := by
  induction ns with
  | nil => rfl
  | cons n r ih => simp [asBls, ih]
@[simp] theorem x_allD (ns : List Bool) : allD [.lst (ns.map D.bl)] = .ok (.bl (ns.all id)) := by
  show (match asBls (ns.map D.bl) with
    | some bs => Res.ok (D.bl (bs.all id))
    | none => .stuck) = _
  rw [x_asBls]
theorem allD_map {α : Type} (xs : List α) (q : α → Bool) : allD [.lst (xs.map fun x => D.bl (q x))] = .ok (.bl (xs.all q)) := by
  have e : (xs.map fun x => D.bl (q x)) = (xs.map q).map D.bl := by rw [List.map_map]; rfl
  rw [e, x_allD, List.all_map]
  rfl
/-- a tuple or list of whole numbers -/
abbrev eT (l : List Int) : D := .tup (l.map D.int)
abbrev eLT (ls : List (List Int)) : D := .lst (ls.map eT)
abbrev eTT (ls : List (List Int)) : D := .tup (ls.map eT)
theorem ok_T : EncOk eT 1 := encI.tup
theorem ok_LT : EncOk eLT 2 := ok_T.lst
theorem ok_TT : EncOk eTT 2 := ok_T.tup
theorem ok_L : EncOk (fun l : List Int => D.lst (l.map D.int)) 1 := encI.lst
@[simp] theorem x_eqI (i j : Int) : eqD (.int i) (.int j) = .ok (.bl (decide (i = j))) := encI.eq i j
@[simp] theorem x_neI (i j : Int) : neD (.int i) (.int j) = .ok (.bl (!decide (i = j))) := encI.ne i j
@[simp] theorem x_eqBl (i j : Bool) : eqD (.bl i) (.bl j) = .ok (.bl (decide (i = j))) := by
  unfold eqD
  cases i <;> cases j <;> rfl
@[simp] theorem x_neBl (i j : Bool) : neD (.bl i) (.bl j) = .ok (.bl (!decide (i = j))) := by
  unfold neD
  cases i <;> cases j <;> rfl
theorem x_getL (xs : List D) (i : Int) : FL.getD (.lst xs) (.int i) = match atI xs i with
    | some d => .ok d
    | none => .stuck := id rfl
theorem x_getT (xs : List D) (i : Int) : FL.getD (.tup xs) (.int i) = match atI xs i with
    | some d => .ok d
    | none => .stuck := id rfl
@[simp] theorem x_getS (xs : List Int) (i : Int) : FL.getD (.scr xs) (.int i) = match atI xs i with
    | some d => .ok (.int d)
    | none => .stuck := id rfl
theorem atI_nat {α : Type} {xs : List α} {i : Int} {x : α} (h0 : 0 ≤ i) (h : xs[i.toNat]? = some x) : atI xs i = some x := by
  unfold atI ixN
  have hl : i.toNat < xs.length := (List.getElem?_eq_some_iff.mp h).1
  rw [if_pos h0, if_pos (by omega)]
  exact h
theorem atI_of {α : Type} {xs : List α} {i : Nat} {x : α} (h : xs[i]? = some x) : atI xs (i : Int) = some x := atI_nat (by omega) (by simpa using h)
theorem atI_map {α β : Type} {xs : List α} {i : Int} {x : α} {f : α → β} (h0 : 0 ≤ i) (h : xs[i.toNat]? = some x) : atI (xs.map f) i = some (f x) := atI_nat h0 (by rw [List.getElem?_map, h]; rfl)
theorem x_asR1 (j : Int) (h : -4611686018427387904 ≤ j ∧ j < 4611686018427387904) : asR1 [.int j] = .ok (rgD 0 j.toNat) := if_pos h
theorem rgD_zero (n : Nat) : rgD 0 n = (List.range n).map fun i => D.int (i : Nat) := by
  unfold rgD
  simp
theorem asR1_nat (n : Nat) (hn : n ≤ 16777216) : asR1 [.int n] = .ok ((List.range n).map fun i : Nat => D.int (i : Int)) := by
  have : (-4611686018427387904 : Int) ≤ n ∧ (n : Int) < 4611686018427387904 := by omega
  rw [x_asR1 n this, rgD_zero, Int.toNat_natCast]
theorem iR1_nat (n : Nat) (hn : n ≤ 16777216) {fs : Slots → Res (List D)} {Γ : Slots} (h : fs Γ = .ok [.int n]) : iN asR1 fs Γ = .ok ((List.range n).map fun i : Nat => D.int (i : Int)) := by
  rw [x_iN, h, Res.bind_ok, asR1_nat n hn]
theorem for_of {its : Slots → Res (List D)} {h : GFn} {body : SFn} {Γ : Slots} {ds : List D} {o : Out} (hi : its Γ = .ok ds) (hf : forD h body ds Γ = o) : sFor its h body Γ = o := by
  rw [x_for, hi, thenR_ok, hf]
theorem range_get {n j x : Nat} (h : (List.range n)[j]? = some x) : x = j ∧ j < n := by
  obtain ⟨h1, h2⟩ := List.getElem?_eq_some_iff.mp h
  rw [List.length_range] at h1
  rw [List.getElem_range] at h2
  exact ⟨h2.symm, h1⟩
theorem sizeLt {n : Nat} (h : n < 16777216) : n < sizeLine := by
  rw [show sizeLine = 16777216 by decide]
  exact h
theorem sizeLe {n : Nat} (h : n ≤ 16777216) : n ≤ sizeLine := by
  rw [show sizeLine = 16777216 by decide]
  exact h
theorem rgList_zero (n : Nat) : rgList 0 (n : Int) = (List.range n).map fun i => D.int (i : Nat) := by
  unfold rgList
  simp

/-! ### comprehensions, loops -/
section
variable {α β : Type} {Γ : Slots} {h : GFn} {p : Slots → Res Bool} {f : EFn} {its : Slots → Res (List D)} {vs : List Nat} {enc : α → D} {body : SFn}
theorem lcD_map {φ : α → D} : ∀ (xs : List α), (∀ x ∈ xs, ∃ Γ1, h (enc x) Γ = .ok Γ1 ∧ p Γ1 = .ok true ∧ f Γ1 = .ok (φ x)) → lcD h p f Γ (xs.map enc) = some (xs.map φ)
  | [], _ => rfl
  | x :: xs, hx => by
    obtain ⟨Γ1, h1, h2, h3⟩ := hx x List.mem_cons_self
    rw [List.map_cons]
    unfold lcD
    simp [h1, h2, h3, toO, lcD_map xs fun y hy => hx y (List.mem_cons_of_mem _ hy)]
theorem lcD_filter {φ : α → D} {q : α → Bool} : ∀ (xs : List α), (∀ x ∈ xs, ∃ Γ1, h (enc x) Γ = .ok Γ1 ∧ p Γ1 = .ok (q x) ∧ f Γ1 = .ok (φ x)) → lcD h p f Γ (xs.map enc) = some ((xs.filter q).map φ)
  | [], _ => rfl
  | x :: xs, hx => by
    obtain ⟨Γ1, h1, h2, h3⟩ := hx x List.mem_cons_self
    rw [List.map_cons]
    unfold lcD
    have ih := lcD_filter xs fun y hy => hx y (List.mem_cons_of_mem _ hy)
    cases e : q x with
    | true => simp [h1, h2, h3, toO, ih, e]
    | false => simp [h1, h2, h3, toO, ih, e]
theorem eLc_map {φ : α → D} (xs : List α) (hi : its Γ = .ok (xs.map enc)) (hl : xs.length ≤ 16777216) (hx : ∀ x ∈ xs, ∃ Γ1, h (enc x) (wipeG Γ vs) = .ok Γ1 ∧ p Γ1 = .ok true ∧ f Γ1 = .ok (φ x)) : eLc vs its h p f Γ = .ok (.lst (xs.map φ)) := by
  unfold eLc
  rw [hi, Res.bind_ok, if_pos (by rw [List.length_map, show sizeLine = 16777216 by decide]; exact hl), lcD_map xs hx]
theorem eLc_filter {φ : α → D} {q : α → Bool} (xs : List α) (hi : its Γ = .ok (xs.map enc)) (hl : xs.length ≤ 16777216) (hx : ∀ x ∈ xs, ∃ Γ1, h (enc x) (wipeG Γ vs) = .ok Γ1 ∧ p Γ1 = .ok (q x) ∧ f Γ1 = .ok (φ x)) : eLc vs its h p f Γ = .ok (.lst ((xs.filter q).map φ)) := by
  unfold eLc
  rw [hi, Res.bind_ok, if_pos (by rw [List.length_map, show sizeLine = 16777216 by decide]; exact hl), lcD_filter xs hx]
/-- one name, no condition: x in the element's slot -/
theorem eLc_one {φ : α → D} {i : Nat} (xs : List α) (hi : its Γ = .ok (xs.map enc)) (hl : xs.length ≤ 16777216) (hg : i < Γ.length) (hx : ∀ x ∈ xs, f (Γ.set i (.val (enc x))) = .ok (φ x)) : eLc [i] its (gN i) nYes f Γ = .ok (.lst (xs.map φ)) := by
  refine eLc_map xs hi hl fun x hm => ⟨_, ?_, rfl, hx x hm⟩
  show gN i (enc x) (Γ.set i .no) = _
  rw [x_gN, if_pos (by rw [List.length_set]; exact hg), List.set_set]
theorem eLc_if {φ : α → D} {q : α → Bool} {i : Nat} (xs : List α) (hi : its Γ = .ok (xs.map enc)) (hl : xs.length ≤ 16777216) (hg : i < Γ.length) (hx : ∀ x ∈ xs, p (Γ.set i (.val (enc x))) = .ok (q x) ∧ f (Γ.set i (.val (enc x))) = .ok (φ x)) : eLc [i] its (gN i) p f Γ = .ok (.lst ((xs.filter q).map φ)) := by
  refine eLc_filter xs hi hl fun x hm => ⟨_, ?_, (hx x hm).1, (hx x hm).2⟩
  show gN i (enc x) (Γ.set i .no) = _
  rw [x_gN, if_pos (by rw [List.length_set]; exact hg), List.set_set]
/-- a dict of whole numbers made from a list without repeats -/
theorem dcD_map {g : EFn} {k : α → Int} {φ : α → D} : ∀ (xs : List α) (acc : List (Int × D)), (∀ x ∈ xs, ∃ Γ1, h (enc x) Γ = .ok Γ1 ∧ p Γ1 = .ok true ∧ f Γ1 = .ok (.int (k x)) ∧ g Γ1 = .ok (φ x)) →
    (acc.map (·.1) ++ xs.map k).Nodup → dcD h p f g Γ (.dI acc) (xs.map enc) = some (.dI (acc ++ xs.map fun x => (k x, φ x)))
  | [], acc, _, _ => by simp [dcD]
  | x :: xs, acc, hx, hn => by
    obtain ⟨Γ1, h1, h2, h3, h4⟩ := hx x List.mem_cons_self
    have hk : (acc.any fun kv => decide (kv.1 = k x)) = false := by
      rw [List.any_eq_false]
      intro kv hkv e
      rw [decide_eq_true_eq] at e
      rw [List.map_cons, List.nodup_append] at hn
      exact hn.2.2 kv.1 (List.mem_map_of_mem hkv) (k x) List.mem_cons_self e
    have ih := dcD_map xs (acc ++ [(k x, φ x)]) (fun y hy => hx y (List.mem_cons_of_mem _ hy)) (by simpa [List.append_assoc] using hn)
    rw [List.map_cons]
    unfold dcD
    simp only [h1, h2, h3, h4, toO, Option.bind_some, if_true, dcPut, putD, hk, Bool.false_eq_true, if_false]
    rw [ih]
    simp [List.append_assoc]
theorem eDc_one {g : EFn} {k : α → Int} {φ : α → D} {i : Nat} (xs : List α) (hi : its Γ = .ok (xs.map enc)) (hl : xs.length ≤ 16777216) (hg : i < Γ.length) (hn : (xs.map k).Nodup)
    (hx : ∀ x ∈ xs, f (Γ.set i (.val (enc x))) = .ok (.int (k x)) ∧ g (Γ.set i (.val (enc x))) = .ok (φ x)) : eDc (.dI []) [i] its (gN i) nYes f g Γ = .ok (.dI (xs.map fun x => (k x, φ x))) := by
  unfold eDc
  rw [hi, Res.bind_ok, if_pos (by rw [List.length_map, show sizeLine = 16777216 by decide]; exact hl)]
  rw [dcD_map (k := k) (φ := φ) xs [] (fun x hm => ⟨_, ?_, rfl, (hx x hm).1, (hx x hm).2⟩) (by simpa using hn)]
  · rfl
  · show gN i (enc x) (Γ.set i .no) = _
    rw [x_gN, if_pos (by rw [List.length_set]; exact hg), List.set_set]
theorem forN {i : Nat} (J : β → Slots → Prop) (φ : β → α → β) : ∀ (xs : List α) (b : β) (Γ : Slots), (∀ b x Γ, x ∈ xs → J b Γ → i < Γ.length ∧ ∃ Γ2, (body (Γ.set i (.val (enc x))) = .nx Γ2 ∨ body (Γ.set i (.val (enc x))) = .ct Γ2) ∧ J (φ b x) Γ2) →
    J b Γ → ∃ Γ', forD (gN i) body (xs.map enc) Γ = .nx Γ' ∧ J (xs.foldl φ b) Γ'
  | [], b, Γ, _, hb => ⟨Γ, rfl, hb⟩
  | x :: xs, b, Γ, hs, hb => by
    obtain ⟨hi, Γ2, h1, h2⟩ := hs b x Γ List.mem_cons_self hb
    obtain ⟨Γ', h3, h4⟩ := forN J φ xs (φ b x) Γ2 (fun b y Γ hy => hs b y Γ (List.mem_cons_of_mem _ hy)) h2
    refine ⟨Γ', ?_, h4⟩
    rw [List.map_cons]
    unfold forD
    rw [x_gN, if_pos hi, thenG_ok]
    rcases h1 with h1 | h1 <;> (rw [h1]; exact h3)
/-- .. the place counted -/
theorem forK {i : Nat} (J : Nat → Slots → Prop) : ∀ (xs : List α) (k : Nat) (Γ : Slots), (∀ j x Γ, xs[j]? = some x → J (k + j) Γ → i < Γ.length ∧ ∃ Γ2, (body (Γ.set i (.val (enc x))) = .nx Γ2 ∨ body (Γ.set i (.val (enc x))) = .ct Γ2) ∧ J (k + j + 1) Γ2) →
    J k Γ → ∃ Γ', forD (gN i) body (xs.map enc) Γ = .nx Γ' ∧ J (k + xs.length) Γ'
  | [], k, Γ, _, hb => ⟨Γ, rfl, hb⟩
  | x :: xs, k, Γ, hs, hb => by
    obtain ⟨hi, Γ2, h1, h2⟩ := hs 0 x Γ rfl hb
    obtain ⟨Γ', h3, h4⟩ := forK J xs (k + 1) Γ2 (fun j y Γ hy hj => by
      have := hs (j + 1) y Γ (by simpa using hy) (by rw [show k + (j + 1) = k + 1 + j by omega]; exact hj)
      rw [show k + (j + 1) + 1 = k + 1 + j + 1 by omega] at this
      exact this) h2
    refine ⟨Γ', ?_, by rw [List.length_cons, show k + (xs.length + 1) = k + 1 + xs.length by omega]; exact h4⟩
    rw [List.map_cons]
    unfold forD
    rw [x_gN, if_pos hi, thenG_ok]
    rcases h1 with h1 | h1 <;> (rw [h1]; exact h3)
end

/-! ### sorted -/
theorem insI_le (a : Int) : ∀ (l : List Int), (∀ b ∈ l, a ≤ b) → insI a l = a :: l
  | [], _ => rfl
  | b :: r, h => by
    unfold insI
    rw [if_pos (h b List.mem_cons_self)]
theorem sortI_eq {l m : List Int} (h : m.Pairwise (· ≤ ·)) (p : l.Perm m) : sortI l = m :=
  ((sortI_perm l).trans p).eq_of_pairwise (fun a b _ _ h1 h2 => Int.le_antisymm h1 h2) (sortI_sorted l) h


/-- the i-th of whole numbers -/
def getN (ds : List Int) (i : Int) : Int := (ds[i.toNat]?).getD 0
theorem getN_mem {ds : List Int} {i : Int} (h0 : 0 ≤ i) (h1 : i < ds.length) : getN ds i ∈ ds := by
  unfold getN
  have h : i.toNat < ds.length := by omega
  rw [List.getElem?_eq_getElem h]
  exact List.getElem_mem h
theorem getD_ints {ds : List Int} {i : Int} (h0 : 0 ≤ i) (h1 : i < ds.length) : FL.getD (.lst (ds.map D.int)) (.int i) = .ok (.int (getN ds i)) := by
  have h : i.toNat < ds.length := by omega
  rw [x_getL, atI_map h0 (List.getElem?_eq_getElem h)]
  unfold getN
  rw [List.getElem?_eq_getElem h]
  rfl
theorem getT_ints {ds : List Int} {i : Int} (h0 : 0 ≤ i) (h1 : i < ds.length) : FL.getD (.tup (ds.map D.int)) (.int i) = .ok (.int (getN ds i)) := by
  have h : i.toNat < ds.length := by omega
  rw [x_getT, atI_map h0 (List.getElem?_eq_getElem h)]
  unfold getN
  rw [List.getElem?_eq_getElem h]
  rfl
theorem getD_map {α : Type} {enc : α → D} {ds : List α} {x : α} {i : Int} (h0 : 0 ≤ i) (h1 : ds[i.toNat]? = some x) : FL.getD (.lst (ds.map enc)) (.int i) = .ok (enc x) := by
  rw [x_getL, atI_map h0 h1]
theorem getT_map {α : Type} {enc : α → D} {ds : List α} {x : α} {i : Int} (h0 : 0 ≤ i) (h1 : ds[i.toNat]? = some x) : FL.getD (.tup (ds.map enc)) (.int i) = .ok (enc x) := by
  rw [x_getT, atI_map h0 h1]
theorem asBls_rep (n : Nat) : asBls (List.replicate n (D.bl true)) = some (List.replicate n true) := by
  induction n with
  | zero => rfl
  | succ n ih => simp [List.replicate_succ, asBls, ih]
@[simp] theorem allD_rep (n : Nat) : allD [.lst (List.replicate n (D.bl true))] = .ok (.bl true) := by
  show (match asBls (List.replicate n (D.bl true)) with
    | some bs => Res.ok (D.bl (bs.all id))
    | none => .stuck) = _
  rw [asBls_rep]
  simp
theorem eLc_true {α : Type} {Γ : Slots} {f : EFn} {its : Slots → Res (List D)} {enc : α → D} {i : Nat} (xs : List α) (hi : its Γ = .ok (xs.map enc)) (hl : xs.length ≤ 16777216) (hg : i < Γ.length) (hx : ∀ x ∈ xs, f (Γ.set i (.val (enc x))) = .ok (.bl true)) : eLc [i] its (gN i) nYes f Γ = .ok (.lst (List.replicate xs.length (.bl true))) := by
  rw [← List.map_const']
  exact eLc_one (φ := fun _ => D.bl true) xs hi hl hg hx
end FL

/-! FL9: defs that raise, try .. except. -/
namespace FL
open PySem PySem.Spec PyProof.Rows L2

def outX : Out → Res D
  | .nx _ => .ok .non
  | .rt d => .ok d
  | .ro d => .ok d
  | .exc e => .exc e
  | _ => .stuck
def outXI : Out → Res D
  | .nx Γ => match (Γ : List Cel)[0]? with
    | some (Cel.own d) => .ok d
    | _ => .stuck
  | .exc e => .exc e
  | _ => .stuck
/-- a def that may raise, by its body -/
def runX (N : Nat) (ms : List Bool) (g : SFn) : List D → Res D := fun ds => outX (g (initG N ms ds))
def runXI (c N : Nat) (ms : List Bool) (g : SFn) : List D → Res D := fun ds => outXI (g (.own (.ins c []) :: initG (N - 1) ms ds))
def sRaise (c : Nat) : SFn := fun _ => .exc ⟨c, none⟩
theorem passN {X : Cx} {E : XK} : Passes CX0 X E := fun _ _ _ _ _ _ _ h => h.elim
section
variable {P : Program} {w : World} {K : PySem.W.Frag} {mg : Str → Option Value} {base : Heap} {ce : CE}
theorem fn_okX {x qual : Str} {st : Stmt} {f : Addr} {fd : FuncData} {N ps : List Str} {k : Nat} {ms : List Bool} {g : SFn} (Fn : Fun K x qual st f fd) (S : FnScope N ps (defScope st))
    (body : ∀ (cdv : Value) (A : Around) (outer : List PySem.Env) (s : Shared) (H : Hp) (E : XK), Room k (A.deeper (envOfC qual (defScope st) s.heap.objs.size f cdv)) →
      ∃ t, PSs (cxOf (L2.CX P w) P w K mg base N qual (defScope st) f cdv A outer s H E) (defBody st) t ∧ DenS K ce (wishOf ce E) none t g) :
    FnOk P w K mg base (L2.CX P w) (k + 1) f fd ps (SpV K ce ps.length ms (runX N.length ms g)) := by
  refine Fn.okX S (fun vs H Q E h => ?_) (fun cdv A outer s H vs Q E hr h => ?_)
  · obtain ⟨F, ds, _, hl, ha, _⟩ := h
    rw [ha.length, hl]
  · obtain ⟨t, hp, hd⟩ := body cdv A outer s H E hr
    obtain ⟨F, ds, hs, hl, ha, hw⟩ := h
    refine ⟨t, hp, hd none H F (initG N.length ms ds) _ F H _ (sta_init hs ha) ?_⟩
    unfold runX at hw
    cases q : g (initG N.length ms ds) with
    | nx Γ => rw [q] at hw; exact fun σ F' H' st _ => hw _ F' H' st.x rNon
    | rt d => rw [q] at hw; exact hw
    | ro d =>
      rw [q] at hw
      intro a o F' H' x hF h0 hH r
      obtain ⟨s1, s2⟩ := Ext.freeze x.sub hF hH
      refine hw (.ref a) (upd F' a o) H' ⟨x.sF.trans s1, x.sH, s2, fun b hb hb' => ?_⟩ ((r.mono s1).r upd_same)
      by_cases z : b = a
      · subst z; exact h0
      · rw [upd_ne z] at hb'; exact x.new b hb hb'
    | exc e => rw [q] at hw; exact hw
    | rc cs => rw [q] at hw; exact hw.elim
    | bk Γ => rw [q] at hw; exact hw.elim
    | ct Γ => rw [q] at hw; exact hw.elim
    | stuck => rw [q] at hw; exact hw.elim
theorem fn_okXI {x qual : Str} {st : Stmt} {f : Addr} {fd : FuncData} {N ps : List Str} {self : Str} {k c : Nat} {ms : List Bool} {g : SFn} (Fn : Fun K x qual st f fd) (S : FnScope (self :: N) (self :: ps) (defScope st))
    (body : ∀ (cdv : Value) (A : Around) (outer : List PySem.Env) (s : Shared) (H : Hp) (E : XK), Room k (A.deeper (envOfC qual (defScope st) s.heap.objs.size f cdv)) →
      ∃ t, PSs (cxOf (L2.CX P w) P w K mg base (self :: N) qual (defScope st) f cdv A outer s H E) (defBody st) t ∧ DenS K ce (wishOf ce E) (some 0) t g) :
    FnOk P w K mg base (L2.CX P w) (k + 1) f fd (self :: ps) (SpI K ce c ps.length ms (runXI c (N.length + 1) ms g)) := by
  refine Fn.okX S (fun vs H Q E h => ?_) (fun cdv A outer s H vs Q E hr h => ?_)
  · obtain ⟨F, ds, a, C, dx, ns, rest, rfl, _, _, _, _, hl, ha, _⟩ := h
    rw [List.length_cons, List.length_cons, ha.length, hl]
  · obtain ⟨t, hp, hd⟩ := body cdv A outer s H E hr
    obtain ⟨F, ds, a, C, dx, ns, rest, rfl, hs, hF, hce, hH, hl, ha, hw⟩ := h
    refine ⟨t, hp, ?_⟩
    have e : L2.start (self :: N) (V.ref a :: rest) = some (.ref a) :: (rest.map some ++ List.replicate (N.length - rest.length) none) := by
      unfold L2.start
      rw [List.map_cons, List.length_cons, List.length_cons, Nat.add_sub_add_right, List.cons_append]
    rw [e]
    have del_le : Same (del H a) H := fun b o q => by
      unfold del at q
      split at q
      · cases q
      · exact q
    refine hd _ (del H a) F (.own (.ins c []) :: initG N.length ms ds) _ F H _ (sta_initI hs hF hce hH ha) ?_
    unfold runXI at hw
    rw [Nat.add_sub_cancel] at hw
    cases q : g (.own (.ins c []) :: initG N.length ms ds) with
    | nx Γ =>
      rw [q] at hw
      intro σ F' H' st _
      unfold outXI at hw
      simp only at hw
      split at hw
      · rename_i d ed
        obtain ⟨b, o, h1, h2, h3, h4⟩ := st.ev.cells 0 _ ed
        have h5 := st.slf 0 rfl
        rw [h1] at h5
        cases h5
        exact hw o F' H' st.x h2 h3 h4
      · exact hw.elim
    | rt d => rw [q] at hw; exact hw.elim
    | ro d => rw [q] at hw; exact hw.elim
    | exc e => rw [q] at hw; exact hw
    | rc cs => rw [q] at hw; exact hw.elim
    | bk Γ => rw [q] at hw; exact hw.elim
    | ct Γ => rw [q] at hw; exact hw.elim
    | stuck => rw [q] at hw; exact hw.elim
end
section
variable {K : PySem.W.Frag} {ce : CE} {z : Option Nat}
theorem ds_raise {E : XK} {C : Addr} {ns : List Str} {c : Nat} (hce : ce c = some (C, ns)) : DenS K ce (wishOf ce E) z (fun _ _ H => E (.ref C) none H) (sRaise c) := fun s0 H0 F0 Γ σ F H N st hh => by
  have h : E (exV ce ⟨c, none⟩) none H := hh H st.x.sH
  unfold exV at h
  simp only [hce] at h
  exact h
end
/-- what a def that may raise asks of its caller: the same exceptions go on -/
theorem goW {ce : CE} {E : XK} (H : Hp) (e : Exn) (h : (wishOf ce E).W H e) : ExW ce E H e := h
structure CalX (P : Program) (w : World) (K : PySem.W.Frag) (mg : Str → Option Value) (base : Heap) (x : Str) (lvl : Nat) (f : Addr) (fd : FuncData) (ps : List Str) (sp : Sp) : Prop where
  ok : FnOk P w K mg base (L2.CX P w) lvl f fd ps sp
  b : Binds K fd ps []
  m : mg x = some (.ref f)
  kp : PySem.W.keepIn K (.ref f) = true
structure CalMX (P : Program) (w : World) (K : PySem.W.Frag) (mg : Str → Option Value) (base : Heap) (C : Addr) (x : Str) (lvl : Nat) (f : Addr) (fd : FuncData) (ps : List Str) (sp : Sp) : Prop where
  ok : FnOk P w K mg base (L2.CX P w) lvl f fd ps sp
  b : Binds K fd ps []
  m : Meth K C x f
structure CalCX (P : Program) (w : World) (K : PySem.W.Frag) (mg : Str → Option Value) (base : Heap) (C : Addr) (x : Str) (lvl : Nat) (f : Addr) (fd : FuncData) (ps : List Str) (sp : Sp) : Prop where
  mak : Mk K C f
  ok : FnOk P w K mg base (L2.CX P w) lvl f fd ps sp
  b : Binds K fd ps []
  m : mg x = some (.ref C)

/-! ### calls in a try: what they let out may be asked of the slots -/
section
variable {X : Cx} {CX : CXT} {k : Nat} {f C : Addr} {fd : FuncData} {ps : List Str} {sp : Sp} {E : L2.St → XK} {x m : Str} {p pos apos : Pos} {e o : Expr} {es : List Expr} {ta : TE} {t : TA}
def tMethQ (C : Addr) (m : Str) (sp : Sp) (E : L2.St → XK) (ta : TE) (t : TA) : TE := fun σ H Q =>
  ta σ H fun v H1 => ∃ a dx fs, v = .ref a ∧ H1 a = some (.ins C dx fs) ∧ fs.lookup m = none ∧ t σ H1 fun vs H2 => sp (.ref a :: vs) H2 Q (E σ)
theorem pe_methQ {pl : Sem Bool} (he : PE X o ta) (c : Cls X.K C) (hm : Meth X.K C m f) (G : FnOk X.prog X.w X.K X.mg X.base CX k f fd ps sp) (hr : Room k X.A) (hb : Binds X.K fd ps [])
    (hx : ∀ σ, PassesAt CX X σ (E σ)) (ha : PA X (e :: es) t) (h1 : starEach (e :: es) X.env = (false, eval e X.env) :: starEach es X.env := by rfl)
    (h2 : (backTo pos (starEach es X.env)).any (·.1) = false := by rfl)
    (h3 : eval (.Call (.Attribute o m apos) (e :: es) [] pos) X.env = (do
      let ob ← eval o X.env
      standAt apos.atName
      let (fn, front) ← holding [ob] (getMethod ob m pl)
      callWith pos fn front (backTo pos (starEach (e :: es) X.env)) (backToKw pos (keywordEach [] X.env))) := by rfl) :
    PE X (.Call (.Attribute o m apos) (e :: es) [] pos) (tMethQ C m sp E ta t) :=
  ⟨fun pins s σ H Q I h => PySem.W.methodCall_KW (pl := pl) (thn (he.run pins s σ H _ I h) fun u s1 ⟨v, H1, I1, rv, a, dx, fs, ev, ea, l, q⟩ => by
    subst ev
    obtain rfl : u = Value.ref a := rv
    exact getmeth_ok I1 ea c hm l (PySem.W.callWith_K (first := [.ref a]) (h₀ := X.base) I1.ok.mod.kin hm.kp
      (thn (ha.run pos pins s1 σ H1 _ I1 q) fun us s2 ⟨vs, H2, I2, r, q2⟩ => ⟨I2.kIn, run_fnS (us := .ref a :: us) (vs := .ref a :: vs) G hr hb (hx σ) I2 (.cons rfl r) q2⟩) h1 h2)) h3⟩
def tMakeQ (C : Addr) (sp : Sp) (E : L2.St → XK) (t : TA) : TE := fun σ H Q => t σ H fun vs H1 => ∀ a dx, H1 a = none → H1 dx = none → dx ≠ a →
  sp (.ref a :: vs) (upd (upd H1 dx (.own a)) a (.ins C dx [])) (fun v H2 => v = .non ∧ Q (.ref a) H2) (E σ)
theorem run_makeQ {pins : List (Addr × Obj)} {σ : L2.St} {H : Hp} {s : Shared} {Q : VK} {us : List Value} {vs : List V} (M : Mk X.K C f) (G : FnOk X.prog X.w X.K X.mg X.base CX k f fd ps sp) (hr : Room (k + 1) X.A) (hb : Binds X.K fd ps [])
    (hx : PassesAt CX X σ (E σ)) (I : Inv X pins σ H s) (r : Vals vs us)
    (h : ∀ a dx, H a = none → H dx = none → dx ≠ a → sp (.ref a :: vs) (upd (upd H dx (.own a)) a (.ins C dx [])) (fun v H2 => v = .non ∧ Q (.ref a) H2) (E σ)) :
    wpAny (model X.prog X.w) X.A (call (.ref C) us) (EP X pins σ Q) X.xe s := by
  let n := s.heap.objs.size
  have q0 := h (n + 1) n (I.hok.fresh (Nat.le_succ _)) (I.hok.fresh (Nat.le_refl _)) (Nat.ne_of_lt (Nat.lt_succ_self _))
  have J := Inv.made (C := C) I
  have rr : Vals (V.ref (n + 1) :: vs) (Value.ref (n + 1) :: us) := .cons rfl r
  have hl : (Value.ref (n + 1) :: us).length = ps.length := by rw [← rr.length, G.len _ _ _ _ q0]
  have b0 := hb _ (Value.ref (n + 1) :: us) J.kIn (by rw [List.append_nil]; exact hl)
  rw [List.append_nil] at b0
  have run := G.run _ X.stack _ _ ⟨Value.ref (n + 1) :: us, []⟩ (Value.ref (n + 1) :: us) (V.ref (n + 1) :: vs) _ (E σ) (hr.make C us []) (J.env0.make C us []) b0 rr q0
  refine wpAny_call (make_map (f := f) I.kIn M.makes M.init (beq_iff_eq.mp M.fn) (codeAny_mono run fun res s' hq => ?_))
  match res, hq with
  | .error u, hq => exact hx pins _ _ u s' J hq
  | .ok (.ret u), hq =>
    obtain ⟨v, H', I3, rv, ev, q3⟩ := J.after hq
    subst ev
    exact ⟨rv, ⟨V.ref (n + 1), H', I3, rfl, q3⟩⟩
theorem pe_makeQ (M : Mk X.K C f) (G : FnOk X.prog X.w X.K X.mg X.base CX k f fd ps sp) (hr : Room (k + 1) X.A) (hg : Gl X x) (hm : X.mg x = some (.ref C)) (hb : Binds X.K fd ps []) (hx : ∀ σ, PassesAt CX X σ (E σ))
    (ha : PA X (e :: es) t) (h0 : (x == ("__debug__" : Str)) = false := by decide) (h1 : starEach (e :: es) X.env = (false, eval e X.env) :: starEach es X.env := by rfl)
    (h2 : (backTo pos (starEach es X.env)).any (·.1) = false := by rfl) : PE X (.Call (.Name x p) (e :: es) [] pos) (tMakeQ C sp E t) :=
  ⟨fun pins s σ H Q I h => wpAny_Call_Name_kw (ld_glob I hg hm (PySem.W.callWith_K (h₀ := X.base) I.ok.mod.kin M.kp
    (thn (ha.run pos pins s σ H _ I h) fun us s1 ⟨vs, H1, I1, r, q⟩ => ⟨I1.kIn, run_makeQ M G hr hb (hx σ) I1 r q⟩) h1 h2) h0)⟩
end
end FL

/-! FL10: try .. except: bodies that only call, suites that ask the error's class. -/
namespace FL
open PySem PySem.Spec PyProof.Rows L2

/-! ### bodies -/
/-- a body's ways out: on, a value handed back, an exception met by W at these slots -/
def QOk (K : PySem.W.Frag) (ce : CE) (W : WX) (σ : L2.St) (D : Ends) (F H : Hp) : Res (Option FL.D) → Prop
  | .ok none => ∀ F' H', Ext F H F' H' → D.nx σ H'
  | .ok (some d) => ∀ v F' H', Ext F H F' H' → Rep K ce F' d v → D.rt v H'
  | .exc e => ∀ H', Same H H' → W (exV ce e) none σ H'
  | .stuck => False
def DenQ (K : PySem.W.Frag) (ce : CE) (tb : WX → TS) (g : Slots → Res (Option D)) : Prop := ∀ (W : WX) (Γ : Slots) (σ : L2.St) (F H : Hp) (N : Ends), Ev K ce Γ σ F H → QOk K ce W σ N F H (g Γ) → tb W N σ H
def DenVQ (K : PySem.W.Frag) (ce : CE) (te : WX → TE) (f : EFn) : Prop := ∀ (W : WX) (Γ : Slots) (σ : L2.St) (F H : Hp) (Q : VK), Ev K ce Γ σ F H →
  (f Γ).wp (fun e => ∀ H', Same H H' → W (exV ce e) none σ H') (fun d => ∀ v F' H', Ext F H F' H' → Rep K ce F' d v → Q v H') → te W σ H Q
/-- what does not raise, then a call that may -/
def eQ (M : List D → Res D) (fs : Slots → Res (List D)) : EFn := fun Γ => match fs Γ with
  | .ok ds => M ds
  | _ => .stuck
def eMethQ (c : Nat) (M : List D → Res D) (f : EFn) (fs : Slots → Res (List D)) : EFn := fun Γ => match f Γ with
  | .ok a => if isC c a = true then (match fs Γ with
    | .ok ds => M (a :: ds)
    | _ => .stuck) else .stuck
  | _ => .stuck
def qExpr (f : EFn) : Slots → Res (Option D) := fun Γ => (f Γ).bind fun _ => .ok none
def qRet (f : EFn) : Slots → Res (Option D) := fun Γ => (f Γ).bind fun d => .ok (some d)
def qNx : Slots → Res (Option D) := fun _ => .ok none
def qIf (c : Slots → Res Bool) (g h : Slots → Res (Option D)) : Slots → Res (Option D) := fun Γ => match c Γ with
  | .ok true => g Γ
  | .ok false => h Γ
  | _ => .stuck
def qSeq (g h : Slots → Res (Option D)) : Slots → Res (Option D) := fun Γ => (g Γ).bind fun o => match o with
  | none => h Γ
  | some d => .ok (some d)
section
variable {K : PySem.W.Frag} {ce : CE} {n : Nat} {ms : List Bool} {tA : TA} {fs : Slots → Res (List D)} {M : List D → Res D} {te ta : TE} {tq : WX → TE} {f : EFn} {tb tb' : WX → TS} {g h : Slots → Res (Option D)}
theorem QOk.ext {W : WX} {σ : L2.St} {N : Ends} {F H F' H' : Hp} (x : Ext F H F' H') : ∀ {r : Res (Option D)}, QOk K ce W σ N F H r → QOk K ce W σ N F' H' r
  | .ok none, q => fun F2 H2 e => q F2 H2 (x.trans e)
  | .ok (some d), q => fun v F2 H2 e r => q v F2 H2 (x.trans e) r
  | .exc e, q => fun H2 s => q H2 (x.sH.trans s)
  | .stuck, q => q
theorem den_callQ (x : DenM K ce .none n ms tA fs) : DenVQ K ce (fun W => tCallS (SpV K ce n ms M) (WE W) tA) (eQ M fs) := fun W Γ σ F H Q ev h => by
  unfold eQ at h
  cases q : fs Γ with
  | ok ds =>
    rw [q] at h
    refine x Γ σ F H _ ev ?_
    rw [q]
    exact fun vs F' H' e hl r => ⟨F', ds, e.sub, hl, r, Res.wp_mono h (fun c y H2 s => y H2 (e.sH.trans s)) fun d _ k2 v F2 H2 e2 r2 => k2 v F2 H2 (e.trans e2) r2⟩
  | exc e => rw [q] at h; exact h.elim
  | stuck => rw [q] at h; exact h.elim
theorem den_methQ {c : Nat} {C : Addr} {ns : List Str} {m : Str} (hce : ce c = some (C, ns)) (hm : m ∉ ns) (y : DenV K ce .none ta f) (x : DenM K ce .none n ms tA fs) :
    DenVQ K ce (fun W => tMethQ C m (SpV K ce (n + 1) (false :: ms) M) (WE W) ta tA) (eMethQ c M f fs) := fun W Γ σ F H Q ev h => by
  unfold eMethQ at h
  cases qa : f Γ with
  | ok d0 =>
    rw [qa] at h
    simp only at h
    split at h
    · rename_i hc
      refine y Γ σ F H _ ev ?_
      rw [qa]
      intro v F1 H1 x1 r1
      obtain ⟨b, dx, vs, rfl, hb⟩ := isC_ins hce hc (r1.b x1.sub)
      refine ⟨b, dx, _, rfl, hb, zip_none hm, x Γ σ F1 H1 _ (ev.ext x1) ?_⟩
      cases q : fs Γ with
      | ok ds =>
        rw [q] at h
        intro us F' H' e hl r
        exact ⟨F', d0 :: ds, e.sub, by rw [List.length_cons, hl], ⟨_, us, rfl, by rw [if_neg Bool.false_ne_true]; exact Rep.mono e.sF _ _ r1, r⟩,
          Res.wp_mono h (fun c y H2 s => y H2 ((x1.trans e).sH.trans s)) fun d _ k2 v F2 H2 e2 r2 => k2 v F2 H2 (x1.trans (e.trans e2)) r2⟩
      | exc e => rw [q] at h; exact h.elim
      | stuck => rw [q] at h; exact h.elim
    · exact h.elim
  | exc e => rw [qa] at h; exact h.elim
  | stuck => rw [qa] at h; exact h.elim
theorem den_makeQ {c : Nat} {C : Addr} {ns : List Str} (hce : ce c = some (C, ns)) (x : DenM K ce .none n ms tA fs) :
    DenVQ K ce (fun W => tMakeQ C (SpI K ce c n ms M) (WE W) tA) (eQ M fs) := fun W Γ σ F H Q ev h => by
  unfold eQ at h
  cases q : fs Γ with
  | ok ds =>
    rw [q] at h
    refine x Γ σ F H _ ev ?_
    rw [q]
    intro vs F1 H1 e hl r p dx hp hdx hne
    have hF : F1 p = none := e.sub.free hp
    have hs : Same H1 (del (upd (upd H1 dx (.own p)) p (.ins C dx [])) p) := del_same hp hdx hne
    have hs2 : Same F1 (upd (upd H1 dx (.own p)) p (.ins C dx [])) := fun b o q => by
      have q1 := e.sub _ _ q
      rw [upd_ne (ne_of_none q1 hp), upd_ne (ne_of_none q1 hdx)]
      exact q1
    refine ⟨F1, ds, p, C, dx, ns, vs, rfl, hs2, hF, hce, upd_same, hl, r.mono (.refl _) hs, Res.wp_mono h (fun c y H2 s => y H2 ((e.sH.trans hs).trans s)) fun d _ k2 o F2 H2 x2 hF2 hH2 r2 => ⟨rfl, ?_⟩⟩
    have y : Ext F1 H1 F2 H2 := ⟨x2.sF, hs.trans x2.sH, x2.sub, fun b hb hb' => hs.free (x2.new b hb hb')⟩
    obtain ⟨s1, s2⟩ := Ext.freeze x2.sub hF2 hH2
    refine k2 (.ref p) (upd F2 p o) H2 (e.trans ⟨y.sF.trans s1, y.sH, s2, fun b hb hb' => ?_⟩) ((r2.mono s1).r upd_same)
    by_cases w : b = p
    · subst w; exact hp
    · rw [upd_ne w] at hb'; exact y.new b hb hb'
  | exc e => rw [q] at h; exact h.elim
  | stuck => rw [q] at h; exact h.elim
theorem dq_expr (x : DenVQ K ce tq f) : DenQ K ce (fun W => tDrop (tq W)) (qExpr f) := fun W Γ σ F H N ev h => by
  refine x W Γ σ F H _ ev ?_
  unfold qExpr at h
  cases q : f Γ with
  | ok d => rw [q] at h; exact fun v F' H' e r => h F' H' e
  | exc e => rw [q] at h; exact h
  | stuck => rw [q] at h; exact h.elim
theorem dq_ret (x : DenVQ K ce tq f) : DenQ K ce (fun W => tRet (tq W)) (qRet f) := fun W Γ σ F H N ev h => by
  refine x W Γ σ F H _ ev ?_
  unfold qRet at h
  cases q : f Γ with
  | ok d => rw [q] at h; exact fun v F' H' e r => h v F' H' e r
  | exc e => rw [q] at h; exact h
  | stuck => rw [q] at h; exact h.elim
theorem dq_nil : DenQ K ce (fun _ => tNext) qNx := fun W Γ σ F H N ev h => h F H (.refl ev.sub)
theorem dq_if {c : TT} {p : Slots → Res Bool} (zz : DenT K ce .none c p) (x : DenQ K ce tb g) (y : DenQ K ce tb' h) : DenQ K ce (fun W => tIfS c (tb W) (tb' W)) (qIf p g h) := fun W Γ σ F H N ev hh => by
  refine zz Γ σ F H _ ev ?_
  unfold qIf at hh
  cases q : p Γ with
  | ok b =>
    rw [q] at hh
    intro F' H' e
    cases b with
    | true => rw [if_pos rfl]; exact x W Γ σ F' H' N (ev.ext e) (QOk.ext e hh)
    | false => rw [if_neg Bool.false_ne_true]; exact y W Γ σ F' H' N (ev.ext e) (QOk.ext e hh)
  | exc e => rw [q] at hh; exact hh.elim
  | stuck => rw [q] at hh; exact hh.elim
theorem dq_seq (x : DenQ K ce tb g) (y : DenQ K ce tb' h) : DenQ K ce (fun W => tSeq (tb W) (tb' W)) (qSeq g h) := fun W Γ σ F H N ev hh => by
  refine x W Γ σ F H _ ev ?_
  unfold qSeq at hh
  cases q : g Γ with
  | ok o =>
    rw [q] at hh
    cases o with
    | none => exact fun F' H' e => y W Γ σ F' H' N (ev.ext e) (QOk.ext e hh)
    | some d => exact hh
  | exc e => rw [q] at hh; exact hh
  | stuck => rw [q] at hh; exact hh.elim
end

/-! ### suites: the error at a stands in slot i -/
section
variable (K : PySem.W.Frag) (ce : CE) (z : Option Nat) (i : Nat) (a : Addr)
def DenU (ts : TS) (g : SFn) : Prop := ∀ (s0 : Option (Option V)) (H0 F0 : Hp) (Γ : Slots) (σ : L2.St) (F H : Hp) (N : Ends), Sta K ce z s0 H0 F0 Γ σ F H → σ[i]? = some (some (.ref a)) → OutOk K ce .none z s0 H0 F0 F N (g Γ) → ts N σ H
def DenVU (te : TE) (f : EFn) : Prop := ∀ (Γ : Slots) (σ : L2.St) (F H : Hp) (Q : VK), Ev K ce Γ σ F H → σ[i]? = some (some (.ref a)) → (f Γ).wp (fun _ => False) (fun d => ∀ v F' H', Ext F H F' H' → Rep K ce F' d v → Q v H') → te σ H Q
def DenAU (t : TA) (fs : Slots → Res (List D)) : Prop := ∀ (Γ : Slots) (σ : L2.St) (F H : Hp) (Q : List V → Hp → Prop), Ev K ce Γ σ F H → σ[i]? = some (some (.ref a)) → (fs Γ).wp (fun _ => False) (fun ds => ∀ vs F' H', Ext F H F' H' → Reps K ce F' ds vs → Q vs H') → t σ H Q
def DenTU (t : TT) (f : Slots → Res Bool) : Prop := ∀ (Γ : Slots) (σ : L2.St) (F H : Hp) (Q : Bool → Hp → Prop), Ev K ce Γ σ F H → σ[i]? = some (some (.ref a)) → (f Γ).wp (fun _ => False) (fun b => ∀ F' H', Ext F H F' H' → Q b H') → t σ H Q
end
/-- isinstance of the error that the suite holds -/
def rIsG (K : PySem.W.Frag) (cls : Value) (d : Option Addr) (a : Addr) : List V → Hp → VK → Prop := fun xs H Q => ∃ B : Addr, cls = .ref B ∧ d = none ∧ ExcC K B ∧ rIsE K B a xs H Q
theorem call_isG {X : Cx} {a : Addr} {oe : Obj} {cls : Value} {d : Option Addr} {pn : List (Addr × Obj)} (hz : Zc cls d oe) (hf : ∃ vs, oe.data = .fields vs) : CallR (X.suite a ((a, oe) :: pn)) (.builtin "isinstance") (rIsG X.K cls d a) := by
  intro pins s σ H xs us Q I r h
  obtain ⟨B, rfl, rfl, C, h⟩ := h
  exact call_isE C hz hf pins s σ H xs us Q I r h
def isub (l : List Nat) (c : Nat) : Bool := l.contains c
section
variable {K : PySem.W.Frag} {ce : CE} {z : Option Nat} {i : Nat} {a : Addr} {te ta tc : TE} {tA : TA} {f g h : EFn} {fs : Slots → Res (List D)} {tt : TT} {p : Slots → Res Bool} {ts us : TS} {gs hs : SFn}
theorem du_v (x : DenV K ce .none te f) : DenVU K ce i a te f := fun Γ σ F H Q ev _ hh => x Γ σ F H Q ev hh
theorem du_t (x : DenT K ce .none tt p) : DenTU K ce i a tt p := fun Γ σ F H Q ev _ hh => x Γ σ F H Q ev hh
theorem du_s (x : DenS K ce .none z ts gs) : DenU K ce z i a ts gs := fun s0 H0 F0 Γ σ F H N st _ hh => x s0 H0 F0 Γ σ F H N st hh
theorem du_is {C : Addr} {v : V} {cv : Value} {b : Bool} (E : ExcC K C) (hv : ∀ u, RelV v u → u = cv) (hk : PySem.W.kitOne K (.ref C) cv = some b) :
    DenVU K ce i a (tCB (rIsG K (.ref C) none a) (tCons (tVar i) (tCons (tC v) tNil))) (eC (.bl b)) := fun Γ σ F H Q ev hi hh =>
  ⟨_, hi, C, rfl, rfl, E, v, cv, b, rfl, hv, hk, hh _ F H (.refl ev.sub) (rBl _)⟩
theorem du_op {r : R2} {o : D → D → Res D} (ho : OpDen K ce r o) (ha : DenVU K ce i a ta f) (hb : DenVU K ce i a te g) : DenVU K ce i a (tOp r ta te) (e2 o f g) := fun Γ σ F H Q ev hi hh => by
  refine ha Γ σ F H _ ev hi (Res.wp_mono (Res.wp_bind hh) (fun _ y => y) fun d _ h2 v F1 H1 x1 r1 => ?_)
  refine hb Γ σ F1 H1 _ (ev.ext x1) hi (Res.wp_mono (Res.wp_bind h2) (fun _ y => y) fun e _ h4 u F2 H2 x2 r2 => ?_)
  exact ho _ F2 H2 v u d e Q x2.sub (BRep.mono x2.sF x2.sH _ _ (r1.b x1.sub)) (r2.b x2.sub) (Res.wp_mono h4 (fun _ y => y) fun _ _ k v' F3 H3 x3 r3 => k v' F3 H3 (x1.trans (x2.trans x3)) r3)
theorem du_anil : DenAU K ce i a tNil aNil := fun Γ σ F H Q ev _ hh => hh [] F H (.refl ev.sub) .nil
theorem du_acons (x : DenVU K ce i a ta f) (y : DenAU K ce i a tA fs) : DenAU K ce i a (tCons ta tA) (aCons f fs) := fun Γ σ F H Q ev hi hh => by
  refine x Γ σ F H _ ev hi (Res.wp_mono (Res.wp_bind hh) (fun _ y => y) fun d _ h2 v F1 H1 x1 r1 => ?_)
  refine y Γ σ F1 H1 _ (ev.ext x1) hi (Res.wp_mono (Res.wp_bind h2) (fun _ y => y) fun ds _ h3 vs F2 H2 x2 r2 => ?_)
  exact h3 (v :: vs) F2 H2 (x1.trans x2) (.cons (Rep.mono x2.sF _ _ r1) r2)
theorem reps_breps {F H : Hp} (s : Same F H) : ∀ {ds : List D} {vs : List V}, Reps K ce F ds vs → BReps K ce F H ds vs
  | [], vs, h => by unfold Reps at h; exact h
  | d :: ds, vs, h => by
    unfold Reps at h
    obtain ⟨v, r, rfl, h1, h2⟩ := h
    exact ⟨v, r, rfl, h1.b s, reps_breps s h2⟩
theorem du_cb {r : List V → Hp → VK → Prop} {o : List D → Res D} (ho : CallDen K ce r o) (x : DenAU K ce i a tA fs) : DenVU K ce i a (tCB r tA) (eN o fs) := fun Γ σ F H Q ev hi hh => by
  refine x Γ σ F H _ ev hi (Res.wp_mono (Res.wp_bind hh) (fun _ y => y) fun ds _ k vs F' H' e r => ?_)
  exact ho _ F' H' vs ds Q e.sub (reps_breps e.sub r) (Res.wp_mono k (fun _ y => y) fun d _ k2 v F2 H2 e2 r2 => k2 v F2 H2 (e.trans e2) r2)
theorem du_lst (x : DenAU K ce i a tA fs) : DenVU K ce i a (tLst tA) (eN mkLst fs) := fun Γ σ F H Q ev hi hh => by
  refine x Γ σ F H _ ev hi (Res.wp_mono (Res.wp_bind hh) (fun _ y => y) fun ds _ k vs F' H' e r => ?_)
  unfold mkLst at k
  split at k
  · rename_i hl
    refine ⟨by rw [r.length]; exact hl, fun l hp => ?_⟩
    refine k (.ref l) _ _ (e.trans (.made e.sub hp)) ?_
    unfold Rep
    exact ⟨l, vs, rfl, upd_same, Reps.mono (sameUpd (e.sub.free hp)) _ _ r⟩
  · exact k.elim
theorem du_tup (x : DenAU K ce i a tA fs) : DenVU K ce i a (tTup tA) (eN mkTup fs) := fun Γ σ F H Q ev hi hh => by
  refine x Γ σ F H _ ev hi (Res.wp_mono (Res.wp_bind hh) (fun _ y => y) fun ds _ k vs F' H' e r => ?_)
  unfold mkTup at k
  split at k
  · rename_i hl
    refine ⟨by rw [r.length]; exact hl, fun l hp => ?_⟩
    refine k (.ref l) _ _ (e.trans (.made e.sub hp)) ?_
    unfold Rep
    exact ⟨l, vs, rfl, upd_same, Reps.mono (sameUpd (e.sub.free hp)) _ _ r⟩
  · exact k.elim
theorem du_ret (x : DenVU K ce i a te f) : DenU K ce z i a (tRet te) (sRet f) := fun s0 H0 F0 Γ σ F H N st hi hh => by
  refine x Γ σ F H _ st.ev hi ?_
  unfold sRet at hh
  cases q : f Γ with
  | ok d => rw [q] at hh; exact fun v F' H' e r => hh v F' H' (st.x.trans e) r
  | exc e => rw [q] at hh; exact hh.elim
  | stuck => rw [q] at hh; exact hh.elim
theorem du_if (zz : DenTU K ce i a tt p) (x : DenU K ce z i a ts gs) (y : DenU K ce z i a us hs) : DenU K ce z i a (tIfS tt ts us) (sIf p gs hs) := fun s0 H0 F0 Γ σ F H N st hi hh => by
  refine zz Γ σ F H _ st.ev hi ?_
  unfold sIf at hh
  cases q : p Γ with
  | ok b =>
    rw [q] at hh
    intro F' H' e
    cases b with
    | true =>
      have k : OutOk K ce .none z s0 H0 F0 F N (if true = true then gs Γ else hs Γ) := hh
      rw [if_pos rfl] at k ⊢
      exact x s0 H0 F0 Γ σ F' H' N (st.ext e) hi (k.mono e.sF)
    | false =>
      have k : OutOk K ce .none z s0 H0 F0 F N (if false = true then gs Γ else hs Γ) := hh
      rw [if_neg Bool.false_ne_true] at k ⊢
      exact y s0 H0 F0 Γ σ F' H' N (st.ext e) hi (k.mono e.sF)
  | exc e => rw [q] at hh; exact hh.elim
  | stuck => rw [q] at hh; exact hh.elim
theorem du_tB (x : DenVU K ce i a te f) : DenTU K ce i a (tB te) (nT f) := fun Γ σ F H Q ev hi hh => x Γ σ F H _ ev hi (Res.wp_mono (Res.wp_bind hh) (fun _ y => y) fun d _ k v F' H' e r => by
  unfold asB at k
  split at k
  · exact ⟨_, r.b e.sub, k F' H' e⟩
  · exact k.elim)
theorem du_tTest (x : DenVU K ce i a te f) : DenTU K ce i a (tTest te) (nT f) := du_tB x
theorem du_and {u v : TT} {p q : Slots → Res Bool} (x : DenTU K ce i a u p) (y : DenTU K ce i a v q) : DenTU K ce i a (tAnd u v) (nAnd p q) := fun Γ σ F H Q ev hi hh => x Γ σ F H _ ev hi (Res.wp_mono (Res.wp_bind hh) (fun _ y => y) fun b _ k F' H' e => by
  cases b with
  | true =>
    rw [if_pos rfl] at k ⊢
    exact y Γ σ F' H' Q (ev.ext e) hi (Res.wp_mono k (fun _ y => y) fun c _ k2 F2 H2 e2 => k2 F2 H2 (e.trans e2))
  | false =>
    rw [if_neg Bool.false_ne_true] at k ⊢
    exact k F' H' e)
theorem du_or {u v : TT} {p q : Slots → Res Bool} (x : DenTU K ce i a u p) (y : DenTU K ce i a v q) : DenTU K ce i a (tOr u v) (nOr p q) := fun Γ σ F H Q ev hi hh => x Γ σ F H _ ev hi (Res.wp_mono (Res.wp_bind hh) (fun _ y => y) fun b _ k F' H' e => by
  cases b with
  | false =>
    rw [if_neg Bool.false_ne_true] at k ⊢
    exact y Γ σ F' H' Q (ev.ext e) hi (Res.wp_mono k (fun _ y => y) fun c _ k2 F2 H2 e2 => k2 F2 H2 (e.trans e2))
  | true =>
    rw [if_pos rfl] at k ⊢
    exact k F' H' e)
theorem du_not {u : TT} {p : Slots → Res Bool} (x : DenTU K ce i a u p) : DenTU K ce i a (tNot u) (nNot p) := fun Γ σ F H Q ev hi hh => x Γ σ F H _ ev hi (Res.wp_mono (Res.wp_bind hh) (fun _ y => y) fun b _ k F' H' e => k F' H' e)
theorem du_andV (x : DenVU K ce i a ta f) (y : DenVU K ce i a te g) : DenVU K ce i a (tAndV ta te) (eAnd f g) := fun Γ σ F H Q ev hi hh => by
  refine x Γ σ F H _ ev hi (Res.wp_mono (Res.wp_bind (Res.wp_bind hh)) (fun _ y => y) fun d _ k v F' H' e r => ?_)
  unfold asB at k
  split at k
  · rename_i b _
    refine ⟨b, r.b e.sub, ?_⟩
    cases b with
    | true =>
      simp only [Res.wp, if_true] at k ⊢
      exact y Γ σ F' H' Q (ev.ext e) hi (Res.wp_mono k (fun _ y => y) fun c _ k2 v F2 H2 e2 => k2 v F2 H2 (e.trans e2))
    | false => exact k _ F' H' e (by unfold Rep; rfl)
  · exact k.elim
theorem du_notV (x : DenVU K ce i a ta f) : DenVU K ce i a (tNotV ta) (eNot f) := fun Γ σ F H Q ev hi hh => by
  refine x Γ σ F H _ ev hi (Res.wp_mono (Res.wp_bind (Res.wp_bind hh)) (fun _ y => y) fun d _ k v F' H' e r => ?_)
  unfold asB at k
  split at k
  · rename_i b _
    exact ⟨b, r.b e.sub, k _ F' H' e (by unfold Rep; rfl)⟩
  · exact k.elim
end
/-- if ..: return ..; then the rest -/
def sIfR (p : Slots → Res Bool) (g h : SFn) : SFn := fun Γ => thenR (p Γ) fun b => if b = true then (match g Γ with
  | .nx _ => .stuck
  | o => o) else h Γ
section
variable {K : PySem.W.Frag} {ce : CE} {W : Wish} {z : Option Nat} {i : Nat} {a : Addr} {tt : TT} {p : Slots → Res Bool} {ts us : TS} {gs hs : SFn}
theorem du_ifR (zz : DenTU K ce i a tt p) (x : DenU K ce z i a ts gs) (y : DenU K ce z i a us hs) : DenU K ce z i a (tSeq (tIfS tt ts tNext) us) (sIfR p gs hs) := fun s0 H0 F0 Γ σ F H N st hi hh => by
  refine zz Γ σ F H _ st.ev hi ?_
  unfold sIfR at hh
  cases q : p Γ with
  | ok b =>
    rw [q] at hh
    intro F' H' e
    cases b with
    | true =>
      have k : OutOk K ce .none z s0 H0 F0 F N (if true = true then (match gs Γ with
        | .nx _ => .stuck
        | o => o) else hs Γ) := hh
      rw [if_pos rfl] at k ⊢
      refine x s0 H0 F0 Γ σ F' H' _ (st.ext e) hi ?_
      replace k := k.mono e.sF
      cases qq : gs Γ with
      | nx Γ' => rw [qq] at k; exact k.elim
      | bk Γ' => rw [qq] at k; exact k
      | ct Γ' => rw [qq] at k; exact k
      | rt d => rw [qq] at k; exact k
      | ro d => rw [qq] at k; exact k
      | rc d => rw [qq] at k; exact k
      | exc c => rw [qq] at k; exact k
      | stuck => rw [qq] at k; exact k
    | false =>
      have k : OutOk K ce .none z s0 H0 F0 F N (if false = true then (match gs Γ with
        | .nx _ => .stuck
        | o => o) else hs Γ) := hh
      rw [if_neg Bool.false_ne_true] at k ⊢
      exact y s0 H0 F0 Γ σ F' H' N (st.ext e) hi (k.mono e.sF)
  | exc e => rw [q] at hh; exact hh.elim
  | stuck => rw [q] at hh; exact hh.elim
theorem Sta.setE {s0 : Option (Option V)} {H0 F0 F H : Hp} {Γ : Slots} {σ : L2.St} {v : Option V} (hz : z ≠ some i) (st : Sta K ce z s0 H0 F0 Γ σ F H) : Sta K ce z s0 H0 F0 (Γ.set i .no) (σ.set i v) F H := by
  have key : ∀ (j : Nat) (c : Cel), (Γ.set i .no)[j]? = some c → c ≠ .no → Γ[j]? = some c ∧ i ≠ j := fun j c e ne => by
    by_cases hj : i = j
    · subst hj
      by_cases hl : i < Γ.length
      · rw [List.getElem?_set_self hl] at e
        cases e
        exact (ne rfl).elim
      · rw [List.getElem?_eq_none (by simpa using hl)] at e
        cases e
    · rw [List.getElem?_set_ne hj] at e
      exact ⟨e, hj⟩
  refine ⟨⟨st.ev.sub, fun j c e => ?_, by rw [List.length_set, List.length_set]; exact st.ev.len⟩, st.x, fun j e a h1 h2 => ?_, fun j k e e' a hjk h1 h2 h3 h4 => ?_, fun j e h1 => ?_, fun k q => (List.getElem?_set_ne (fun e => hz (q.trans (congrArg some e.symm)))).trans (st.slf k q)⟩
  · by_cases hc : c = .no
    · subst hc; trivial
    · obtain ⟨k1, k2⟩ := key j c e hc
      rw [List.getElem?_set_ne k2]
      exact st.ev.cells j c k1
  · obtain ⟨k1, k2⟩ := key j _ h1 (fun y => nomatch y)
    rw [List.getElem?_set_ne k2] at h2
    exact st.own j e a k1 h2
  · obtain ⟨k1, k2⟩ := key j _ h1 (fun y => nomatch y)
    obtain ⟨k3, k4⟩ := key k _ h2 (fun y => nomatch y)
    rw [List.getElem?_set_ne k2] at h3
    rw [List.getElem?_set_ne k4] at h4
    exact st.sep j k e e' a hjk k1 k3 h3 h4
  · obtain ⟨k1, k2⟩ := key j _ h1 (fun y => nomatch y)
    rw [List.getElem?_set_ne k2]
    exact st.bor j e k1
/-- behind a suite its name is gone -/
def unset (i : Nat) : Out → Out
  | .nx Γ => .nx (Γ.set i .no)
  | .rt d => .rt d
  | _ => .stuck
/-- try: g, except .. as the i-th name: su, told the error's class -/
def sTryAs (i : Nat) (catch_ : Nat → Bool) (g : Slots → Res (Option D)) (su : Nat → SFn) : SFn := fun Γ => match g Γ with
  | .ok none => .nx Γ
  | .ok (some d) => .rt d
  | .exc e => if catch_ e.c = true ∧ i < Γ.length then unset i (su e.c (Γ.set i .no)) else .stuck
  | .stuck => .stuck
def sTry (catch_ : Nat → Bool) (g : Slots → Res (Option D)) (su : SFn) : SFn := fun Γ => match g Γ with
  | .ok none => .nx Γ
  | .ok (some d) => .rt d
  | .exc e => if catch_ e.c = true then su Γ else .stuck
  | .stuck => .stuck
def w0 : WX := fun _ _ _ _ => False
theorem ds_tryAs {cv : Value} {catch_ : Nat → Bool} {tb : WX → TS} {tu : Addr → Value → Option Addr → TS} {g : Slots → Res (Option D)} {su : Nat → SFn} (hz : z ≠ some i)
    (hc : ∀ c, catch_ c = true → ∃ C ns, ce c = some (C, ns) ∧ PySem.W.exmOne K (.ref C) cv = some true ∧ ∀ a, DenU K ce z i a (tu a (.ref C) none) (su c)) (hb : DenQ K ce tb g) :
    DenS K ce W z (fun N σ H => tb (wAs K cv i tu (fun _ _ _ _ => False) N) N σ H) (sTryAs i catch_ g su) := fun s0 H0 F0 Γ σ F H N st hh => by
  refine hb _ Γ σ F H N st.ev ?_
  unfold sTryAs at hh
  cases q : g Γ with
  | ok o =>
    rw [q] at hh
    cases o with
    | none => exact fun F' H' e => hh σ F' H' (st.ext e) e.sF
    | some d => exact fun v F' H' e r => hh v F' H' (st.x.trans e) r
  | exc e =>
    rw [q] at hh
    simp only at hh
    split at hh
    · rename_i hcl
      intro H' s
      obtain ⟨C, ns, hce, hex, hu⟩ := hc e.c hcl.1
      have ev : exV ce e = .ref C := by unfold exV; rw [hce]
      rw [ev]
      refine ⟨true, hex, fun _ a ha => ?_, fun y => nomatch y⟩
      have xx : Ext F H F H' := ⟨.refl _, s, st.ev.sub.trans s, fun b hb hb' => (hb' hb).elim⟩
      have hl : i < σ.length := by rw [← st.ev.len]; exact hcl.2
      refine hu a s0 H0 F0 (Γ.set i .no) (σ.set i (some (.ref a))) F H' _ (Sta.setE hz (st.ext xx)) (List.getElem?_set_self hl) ?_
      cases qq : su e.c (Γ.set i .no) with
      | nx Γ' => rw [qq] at hh; exact fun σ' F' H2 st' s' => hh (σ'.set i none) F' H2 (Sta.setE hz st') s'
      | rt d => rw [qq] at hh; exact hh
      | bk Γ' => rw [qq] at hh; exact hh.elim
      | ct Γ' => rw [qq] at hh; exact hh.elim
      | ro d => rw [qq] at hh; exact hh.elim
      | rc d => rw [qq] at hh; exact hh.elim
      | exc c => rw [qq] at hh; exact hh.elim
      | stuck => rw [qq] at hh; exact hh.elim
    · exact hh.elim
  | stuck => rw [q] at hh; exact hh.elim
theorem ds_try {cv : Value} {catch_ : Nat → Bool} {tb : WX → TS} {tu : Addr → Value → Option Addr → TS} {g : Slots → Res (Option D)} {su : SFn}
    (hc : ∀ c, catch_ c = true → ∃ C ns, ce c = some (C, ns) ∧ PySem.W.exmOne K (.ref C) cv = some true) (hu : ∀ a cls d, DenS K ce W z (tu a cls d) su) (hb : DenQ K ce tb g) :
    DenS K ce W z (fun N σ H => tb (wOnly K cv tu (fun _ _ _ _ => False) N) N σ H) (sTry catch_ g su) := fun s0 H0 F0 Γ σ F H N st hh => by
  refine hb _ Γ σ F H N st.ev ?_
  unfold sTry at hh
  cases q : g Γ with
  | ok o =>
    rw [q] at hh
    cases o with
    | none => exact fun F' H' e => hh σ F' H' (st.ext e) e.sF
    | some d => exact fun v F' H' e r => hh v F' H' (st.x.trans e) r
  | exc e =>
    rw [q] at hh
    simp only at hh
    split at hh
    · rename_i hcl
      intro H' s
      obtain ⟨C, ns, hce, hex⟩ := hc e.c hcl
      have ev : exV ce e = .ref C := by unfold exV; rw [hce]
      rw [ev]
      refine ⟨true, hex, fun _ a ha => ?_, fun y => nomatch y⟩
      have xx : Ext F H F H' := ⟨.refl _, s, st.ev.sub.trans s, fun b hb hb' => (hb' hb).elim⟩
      exact hu a _ _ s0 H0 F0 Γ σ F H' N (st.ext xx) hh
    · exact hh.elim
  | stuck => rw [q] at hh; exact hh.elim
end
end FL

/-! FL11: what is read no more is forgotten; tuple * int, text * int; dicts with tuple keys; setdefault. -/
namespace FL
open PySem PySem.Spec PyProof.Rows L2

/-! ### forgetting -/
def wipeO (is : List Nat) : Out → Out
  | .nx Γ => .nx (wipeG Γ is)
  | .bk Γ => .bk (wipeG Γ is)
  | .ct Γ => .ct (wipeG Γ is)
  | .rt d => .rt d
  | .ro d => .ro d
  | .exc e => .exc e
  | .stuck => .stuck
  | .rc cs => .rc cs
def sWipe (is : List Nat) (g : SFn) : SFn := fun Γ => wipeO is (g Γ)
section
variable {K : PySem.W.Frag} {ce : CE} {W : Wish} {z : Option Nat} {s0 : Option (Option V)} {H0 F0 F H : Hp} {Γ : Slots} {σ : L2.St} {t : TS} {g : SFn}
theorem Sta.wipe (vs : List Nat) (st : Sta K ce z s0 H0 F0 Γ σ F H) : Sta K ce z s0 H0 F0 (wipeG Γ vs) σ F H := by
  refine ⟨⟨st.ev.sub, fun i c e => ?_, by rw [wipeG_len]; exact st.ev.len⟩, st.x, fun i d a h1 h2 => ?_, fun i j d e a hij h1 h2 h3 h4 => ?_, fun i d h1 => ?_, st.slf⟩
  · rcases wipeG_get e with rfl | ⟨e1, _⟩
    · trivial
    · exact st.ev.cells i c e1
  · rcases wipeG_get h1 with q | ⟨e1, _⟩
    · cases q
    · exact st.own i d a e1 h2
  · rcases wipeG_get h1 with q | ⟨e1, _⟩
    · cases q
    · rcases wipeG_get h2 with q | ⟨e2, _⟩
      · cases q
      · exact st.sep i j d e a hij e1 e2 h3 h4
  · rcases wipeG_get h1 with q | ⟨e1, _⟩
    · cases q
    · exact st.bor i d e1
theorem ds_wipe (is : List Nat) (x : DenS K ce W z t g) : DenS K ce W z t (sWipe is g) := fun s0 H0 F0 Γ σ F H N st hh => by
  refine x s0 H0 F0 Γ σ F H N st ?_
  unfold sWipe at hh
  cases q : g Γ with
  | nx Γ' => rw [q] at hh; exact fun σ' F' H' st' s' => hh σ' F' H' (st'.wipe is) s'
  | bk Γ' => rw [q] at hh; exact fun σ' F' H' st' s' => hh σ' F' H' (st'.wipe is) s'
  | ct Γ' => rw [q] at hh; exact fun σ' F' H' st' s' => hh σ' F' H' (st'.wipe is) s'
  | rt d => rw [q] at hh; exact hh
  | ro d => rw [q] at hh; exact hh
  | rc d => rw [q] at hh; exact hh
  | exc e => rw [q] at hh; exact hh
  | stuck => rw [q] at hh; exact hh
end

/-! ### tuple * int -/
theorem tuple_mulS (l : Addr) (items : Array Value) (n : Nat) (dd : Option Addr) (sl : Array (Option Value)) (x : Int) (u : Tok) (c0 : (decide (x < -(2 ^ 63)) || decide (x ≥ 2 ^ 63)) = false) (c1 : (items.isEmpty || x == 1) = true) :
    Meets (Builtin.«tuple.__mul__» ⟨[.ref l, .int x u], []⟩) (fun _ R s => s.heap.get? l = some { cls := .type "tuple", dict := dd, data := .seq items n, slots := sl } ∧
      R (.ok (.ret (Value.ref l))) s) :=
  .of_wp fun prog w A R s h => by
    obtain ⟨hp, g, d, tk, os⟩ := s
    obtain ⟨hl, h⟩ := h
    have f1 := AutoSeq1.idx_int
    wp_walk using wpAny_loadPart' hl
    refine wpAny_ite_false (decide_eq_false (by rw [c0]; exact Bool.false_ne_true)) ?_
    wp_walk using wpAny_loadPart' hl
    exact ⟨_, rfl, h⟩
theorem tuple_mul0 (l : Addr) (items : Array Value) (n : Nat) (dd : Option Addr) (sl : Array (Option Value)) (x : Int) (u : Tok) (c0 : (decide (x < -(2 ^ 63)) || decide (x ≥ 2 ^ 63)) = false) (c1 : (items.isEmpty || x == 1) = false) (c2 : (decide (x ≤ 0) || items.isEmpty) = true) :
    Meets (Builtin.«tuple.__mul__» ⟨[.ref l, .int x u], []⟩) (fun _ R s => s.heap.get? l = some { cls := .type "tuple", dict := dd, data := .seq items n, slots := sl } ∧
      R (.ok (.ret (Value.ref s.heap.objs.size))) { s with heap := s.heap.push { cls := Value.type "tuple", data := Data.seq #[] } }) :=
  .of_wp fun prog w A R s h => by
    obtain ⟨hp, g, d, tk, os⟩ := s
    obtain ⟨hl, h⟩ := h
    have f1 := AutoSeq1.idx_int
    wp_walk using wpAny_loadPart' hl
    refine wpAny_ite_false (decide_eq_false (by rw [c0]; exact Bool.false_ne_true)) ?_
    wp_walk using wpAny_loadPart' hl
    exact ⟨_, rfl, h⟩
def rRepTA (K : PySem.W.Frag) : R2 := fun x y H Q => ∃ l k xs, x = .ref l ∧ y = .int k ∧ SqT K H l xs ∧ -1000 ≤ k ∧ k ≤ 1000 ∧ xs.length ≤ 1000 ∧ (xs = [] ∨ k = 1 → Q (.ref l) H) ∧ (xs ≠ [] → k ≤ 0 → ∀ p, H p = none → Q (.ref p) (upd H p (.tup []))) ∧
  (xs ≠ [] → 2 ≤ k → ∀ p, H p = none → Q (.ref p) (upd H p (.tup (List.replicate k.toNat xs).flatten)))
section
variable {X : Cx}
theorem op_repTA : OpR X (binaryOp .Mult) (rRepTA X.K) := by
  intro pins s σ H x y v u Q I rx ry h
  obtain ⟨l, k, xs, rfl, rfl, hT, b1, b2, hz, q1, q2, q3⟩ := h
  by_cases h3 : xs ≠ [] ∧ 2 ≤ k
  · exact op_repT pins s σ H _ _ v u Q I rx ry ⟨l, k, xs, rfl, rfl, hT, h3.1, h3.2, b2, hz, q3 h3.1 h3.2⟩
  cases rx
  obtain ⟨t, rfl⟩ := ry
  obtain ⟨its, r, ⟨⟨cls, dd, data, sl⟩, ho, hc, n, hd⟩, hs⟩ := I.tuple hT
  simp only at hc hd
  subst hc hd
  have hle : its.length = xs.length := r.length.symm
  have c0 : (decide (k < -(2 ^ 63)) || decide (k ≥ 2 ^ 63)) = false := by
    rw [decide_eq_false (by omega), decide_eq_false (by omega)] <;> rfl
  by_cases h1 : xs = [] ∨ k = 1
  · have c1 : (its.toArray.isEmpty || k == 1) = true := by
      rcases h1 with rfl | rfl
      · have : its = [] := List.eq_nil_of_length_eq_zero (by rw [hle]; rfl)
        subst this
        rfl
      · rw [Bool.or_eq_true]; exact .inr rfl
    refine wpAny_binaryOp_repeat_ref (T := "tuple") (U := "int") (by decide) ⟨_, ho, rfl⟩ (fun s' => typeIs_int s' k t) noFill_tuple_mul F.fills_int_mul F.slot_int_rmul repeat_tuple F.slot_int_index.lookup
      (call_meets F.slot_int_rmul (typeIs_int s k t) F.entry_int_rmul (F.args_int_rmul_2 _ _) (int_rmul_tuple k t l its.toArray n dd sl)
        ⟨ho, rfl, ⟨_, ho, rfl⟩, call_meets F.slot_tuple_mul ⟨_, ho, rfl⟩ F.entry_tuple_mul (F.args_tuple_mul_2 _ _) (tuple_mulS l its.toArray n dd sl k t c0 c1) ⟨ho, ?_⟩⟩)
    exact ⟨.ref l, H, I, rfl, q1 h1⟩
  · have hne : xs ≠ [] := fun e => h1 (.inl e)
    have hk1 : k ≠ 1 := fun e => h1 (.inr e)
    have hk : k ≤ 0 := by
      have : ¬ 2 ≤ k := fun e => h3 ⟨hne, e⟩
      omega
    have hn : its ≠ [] := fun e => hne (by
      rw [e] at hle
      exact List.eq_nil_of_length_eq_zero hle.symm)
    have hi : its.toArray.isEmpty = false := by
      cases its with
      | nil => exact absurd rfl hn
      | cons a b => rfl
    have c1 : (its.toArray.isEmpty || k == 1) = false := by
      rw [hi, Bool.false_or]
      exact beq_eq_false_iff_ne.mpr hk1
    have c2 : (decide (k ≤ 0) || its.toArray.isEmpty) = true := by
      rw [decide_eq_true hk, Bool.true_or]
    refine wpAny_binaryOp_repeat_ref (T := "tuple") (U := "int") (by decide) ⟨_, ho, rfl⟩ (fun s' => typeIs_int s' k t) noFill_tuple_mul F.fills_int_mul F.slot_int_rmul repeat_tuple F.slot_int_index.lookup
      (call_meets F.slot_int_rmul (typeIs_int s k t) F.entry_int_rmul (F.args_int_rmul_2 _ _) (int_rmul_tuple k t l its.toArray n dd sl)
        ⟨ho, rfl, ⟨_, ho, rfl⟩, call_meets F.slot_tuple_mul ⟨_, ho, rfl⟩ F.entry_tuple_mul (F.args_tuple_mul_2 _ _) (tuple_mul0 l its.toArray n dd sl k t c0 c1 c2) ⟨ho, ?_⟩⟩)
    refine ⟨.ref s.heap.objs.size, _, I.laid (t' := s.toks) (o := .tup []) (fun b ob q => Heap.get?_push_of_some _ q) (Nat.le_refl _) ?_, rfl, q2 hne hk _ (I.hok.fresh (Nat.le_refl _))⟩
    exact ⟨Nat.zero_le _, [], .nil, IsTup.new _ _⟩
/-- text * int -/
def strRep (x : Str) (k : Int) : Str := ⟨(List.replicate k.toNat x.cps).foldl (· ++ ·) #[]⟩
theorem foldl_app {α : Type} (m : Nat) (c : Array α) : ∀ acc : Array α, ((List.replicate m c).foldl (· ++ ·) acc).size = acc.size + m * c.size := by
  induction m with
  | zero => intro acc; simp
  | succ m ih =>
    intro acc
    rw [List.replicate_succ, List.foldl_cons, ih, Array.size_append, Nat.add_mul, Nat.one_mul]
    omega
theorem foldl_nil0 {α : Type} (m : Nat) : (List.replicate m (#[] : Array α)).foldl (· ++ ·) #[] = #[] := by
  apply Array.eq_empty_of_size_eq_zero
  rw [foldl_app]
  simp
theorem op_mulS : OpR X (binaryOp .Mult) (fun x y H Q => ∃ z k, x = .str z ∧ y = .int k ∧ -1000 ≤ k ∧ k ≤ 1000 ∧ z.length ≤ 1000 ∧ Q (.str (strRep z k)) H) := by
  intro pins s σ H x y v u Q I rx ry h
  obtain ⟨z, k, rfl, rfl, b1, b2, hz, q⟩ := h
  obtain ⟨t, rfl⟩ := rx
  obtain ⟨t', rfl⟩ := ry
  have c0 : (decide (k < -(2 ^ 63)) || decide (k ≥ 2 ^ 63)) = false := by
    rw [decide_eq_false (by omega), decide_eq_false (by omega)] <;> rfl
  have hm : z.length * k.toNat ≤ 1000 * 1000 := Nat.mul_le_mul hz (by omega)
  refine P.mul_str c0 (fun h1 _ h2 => ?_) (fun h1 _ => ?_) ?_
  · have h3 : (2 ^ 63 - 1) / k ≥ (2 ^ 63 - 1) / 1000 := by
      have hk : 0 < k := by omega
      have h4 : (2 ^ 63 - 1 : Int) / 1000 * k ≤ 2 ^ 63 - 1 := by omega
      exact (Int.le_ediv_iff_mul_le hk).mpr h4
    omega
  · unfold Builtin.Str.tooLong
    rw [sizeLine_eq]
    exact decide_eq_false (by omega)
  · split
    · rename_i h1
      refine ⟨by decide, ⟨.str (strRep z k), H, I.tok _, ⟨s.toks, ?_⟩, q⟩⟩
      have : k.toNat = 0 := by omega
      unfold strRep
      rw [this]
      rfl
    · split
      · rename_i h1 h2
        refine ⟨.str (strRep z k), H, I, ⟨t, ?_⟩, q⟩
        have e : strRep z k = z := by
          rw [Bool.or_eq_true, beq_iff_eq, beq_iff_eq] at h2
          unfold strRep
          rcases h2 with h2 | h2
          · subst h2
            show (⟨#[] ++ z.cps⟩ : Str) = z
            rw [Array.empty_append]
          · have e2 : z.cps = #[] := Array.eq_empty_of_size_eq_zero h2
            rw [e2, foldl_nil0]
            show (⟨#[]⟩ : Str) = z
            rw [← e2]
        rw [e]
      · refine ⟨?_, ⟨.str (strRep z k), H, I.tok _, ⟨_, rfl⟩, q⟩⟩
        show ((List.replicate k.toNat z.cps).foldl (· ++ ·) #[]).size ≤ _
        rw [foldl_app]
        rw [show z.cps.size = z.length from rfl, sizeLine_eq, Nat.mul_comm]
        simp only [List.size_toArray, List.length_nil]
        omega
end
def repTA : D → D → Res D
  | .tup xs, .int k => if -1000 ≤ k ∧ k ≤ 1000 ∧ xs.length ≤ 1000 then .ok (.tup (List.replicate k.toNat xs).flatten) else .stuck
  | _, _ => .stuck
def mulS : D → D → Res D
  | .str x, .int k => if -1000 ≤ k ∧ k ≤ 1000 ∧ x.length ≤ 1000 then .ok (.str (strRep x k)) else .stuck
  | _, _ => .stuck
section
variable {K : PySem.W.Frag} {ce : CE}
theorem od_repTA : OpVDen K ce (rRepTA K) repTA := fun E F H x y a b Q s ha hb h => by
  unfold repTA at h; split at h
  · split at h
    · rename_i xs k hz
      have ha0 := ha
      unfold Rep at ha hb
      obtain ⟨p, vs, rfl, hp, hvs⟩ := ha
      subst hb
      have hl := hvs.length
      have hrep := hvs.repl k.toNat
      refine ⟨p, k, vs, rfl, rfl, .of (s _ _ hp), hz.1, hz.2.1, by rw [hl]; exact hz.2.2, fun e => ?_, fun e e2 n hn => ?_, fun e e2 n hn => ?_⟩
      · refine h _ F H (.refl s) ?_
        have q : (List.replicate k.toNat xs).flatten = xs := by
          rcases e with e | rfl
          · have : xs = [] := List.eq_nil_of_length_eq_zero (by rw [← hl, e]; rfl)
            subst this
            simp
          · simp
        rw [q]
        exact ha0
      · refine h _ _ _ (.made s hn) ?_
        have q : k.toNat = 0 := by omega
        rw [q]
        unfold Rep; exact ⟨n, [], rfl, upd_same, .nil⟩
      · refine h _ _ _ (.made s hn) ?_
        unfold Rep; exact ⟨n, _, rfl, upd_same, Reps.mono (sameUpd (s.free hn)) _ _ hrep⟩
    · exact h.elim
  · exact h.elim
theorem od_mulS : OpDen K ce (fun x y H Q => ∃ z k, x = .str z ∧ y = .int k ∧ -1000 ≤ k ∧ k ≤ 1000 ∧ z.length ≤ 1000 ∧ Q (.str (strRep z k)) H) mulS := fun E F H x y a b Q s ha hb h => by
  unfold mulS at h; split at h
  · split at h
    · rename_i c; exact ⟨_, _, ha, hb, c.1, c.2.1, c.2.2, h _ F H (.refl s) (rStr _)⟩
    · exact h.elim
  · exact h.elim
end

/-! ### dicts with tuple keys -/
mutual
def nk : D → Option NestedKey
  | .non => some .none
  | .int i => some (.num i)
  | .bl b => some (.num (if b = true then 1 else 0))
  | .tup ds => (nks ds).map .tup
  | _ => none
def nks : List D → Option (List NestedKey)
  | [] => some []
  | d :: ds => (nk d).bind fun k => (nks ds).map (k :: ·)
end
/-- a tuple as a key -/
def nkT : D → Option NestedKey
  | .tup ds => (nks ds).bind fun ks => if (NestedKey.tup ks).depth ≤ 8 then some (.tup ks) else none
  | _ => none
def nlk : D → D → Option (Option D)
  | .dN kvs, d => (nkT d).map fun k => lk kvs k
  | _, _ => none
def ngetD (d k : D) : Res D := match nlk d k with
  | some (some v) => .ok v
  | _ => .stuck
def ninD (k d : D) : Res D := match nlk d k with
  | some o => .ok (.bl o.isSome)
  | none => .stuck
def nninD (k d : D) : Res D := match nlk d k with
  | some o => .ok (.bl (!o.isSome))
  | none => .stuck
def isN_ : D → Bool
  | .dN _ => true
  | _ => false
def eNg1 (f g : EFn) : EFn := fun Γ => (f Γ).bind fun d => if isN_ d = true then (g Γ).bind fun k => match nlk d k with
  | some o => .ok (o.getD .non)
  | none => .stuck else .stuck
def eNg2 (f g h : EFn) : EFn := fun Γ => (f Γ).bind fun d => if isN_ d = true then (g Γ).bind fun k => (h Γ).bind fun z => match nlk d k with
  | some o => .ok (o.getD z)
  | none => .stuck else .stuck
def lenN : List D → Res D
  | [.dN xs] => .ok (.int xs.length)
  | _ => .stuck
def nput (m k v : D) : Res D := match m, nkT k with
  | .dN kvs, some k => if kvs.length < sizeLine then .ok (.dN (putD kvs k v)) else .stuck
  | _, _ => .stuck
section
variable {K : PySem.W.Frag} {ce : CE} {W : Wish} {F H : Hp}
mutual
theorem nk_is : ∀ (d : D) (v : V) (k : NestedKey), Rep K ce F d v → nk d = some k → NIs F k v
  | .non, v, k, h, e => by unfold nk at e; cases e; unfold Rep at h; unfold NIs; exact h
  | .int i, v, k, h, e => by unfold nk at e; cases e; unfold Rep at h; unfold NIs; exact .inl h
  | .bl b, v, k, h, e => by unfold nk at e; cases e; unfold Rep at h; unfold NIs; exact .inr ⟨b, h, rfl⟩
  | .tup ds, v, k, h, e => by
    unfold nk at e
    unfold Rep at h
    obtain ⟨a, vs, rfl, h1, h2⟩ := h
    cases q : nks ds with
    | none => rw [q] at e; cases e
    | some ks =>
      rw [q] at e
      cases e
      unfold NIs
      exact ⟨a, vs, rfl, h1, nks_is ds vs ks h2 q⟩
  | .str _, _, _, _, e => by unfold nk at e; cases e
  | .lst _, _, _, _, e => by unfold nk at e; cases e
  | .dI _, _, _, _, e => by unfold nk at e; cases e
  | .dT _, _, _, _, e => by unfold nk at e; cases e
  | .dS _, _, _, _, e => by unfold nk at e; cases e
  | .dN _, _, _, _, e => by unfold nk at e; cases e
  | .ins _ _, _, _, _, e => by unfold nk at e; cases e
  | .scr _, _, _, _, e => by unfold nk at e; cases e
  | .ty _, _, _, _, e => by unfold nk at e; cases e
theorem nks_is : ∀ (ds : List D) (vs : List V) (ks : List NestedKey), Reps K ce F ds vs → nks ds = some ks → NAll F ks vs
  | [], vs, ks, h, e => by unfold nks at e; cases e; unfold Reps at h; unfold NAll; exact h
  | d :: ds, vs, ks, h, e => by
    unfold nks at e
    unfold Reps at h
    obtain ⟨v, r, rfl, h1, h2⟩ := h
    cases q : nk d with
    | none => rw [q] at e; cases e
    | some k =>
      cases q2 : nks ds with
      | none => rw [q, q2] at e; cases e
      | some ks' =>
        rw [q, q2] at e
        cases e
        unfold NAll
        exact ⟨v, r, rfl, nk_is d v k h1 q, nks_is ds r ks' h2 q2⟩
end
theorem nkT_is {d : D} {v : V} {k : NestedKey} (s : Same F H) (h : BRep K ce F H d v) (e : nkT d = some k) : ∃ b, v = .ref b ∧ NIs H k v ∧ k.depth ≤ 8 := by
  cases d <;> first | (cases e; done) | skip
  rename_i ds
  obtain ⟨a, vs, rfl, h1, h2⟩ := h
  have e' : ((nks ds).bind fun ks => if (NestedKey.tup ks).depth ≤ 8 then some (NestedKey.tup ks) else none) = some k := e
  cases q : nks ds with
  | none => rw [q] at e'; cases e'
  | some ks =>
    rw [q] at e'
    simp only [Option.bind_some] at e'
    split at e'
    · rename_i hd
      cases e'
      refine ⟨a, rfl, ?_, hd⟩
      unfold NIs
      exact ⟨a, vs, rfl, h1, NAll.mono s _ _ (nks_is ds vs ks h2 q)⟩
    · cases e'
theorem nkT_isF {d : D} {v : V} {k : NestedKey} (h : Rep K ce F d v) (e : nkT d = some k) : ∃ b, v = .ref b ∧ NIs F k v ∧ k.depth ≤ 8 := nkT_is (H := F) (.refl F) (h.b (.refl F)) e
theorem repsN_keys : ∀ {kvs : List (NestedKey × D)} {es : List NE}, RepsN K ce F kvs es → KeysN F es
  | [], es, h => by unfold RepsN at h; subst h; exact fun p hp => nomatch hp
  | (k, d) :: r, es, h => by
    unfold RepsN at h
    obtain ⟨b, v, l, rfl, h0, h1, h2⟩ := h
    intro p hp
    rcases List.mem_cons.mp hp with rfl | hp
    · exact h0
    · exact repsN_keys h2 p hp
theorem repsN_len : ∀ {kvs : List (NestedKey × D)} {es : List NE}, RepsN K ce F kvs es → es.length = kvs.length
  | [], es, h => by unfold RepsN at h; subst h; rfl
  | (k, d) :: r, es, h => by
    unfold RepsN at h
    obtain ⟨b, v, l, rfl, _, _, h2⟩ := h
    rw [List.length_cons, List.length_cons, repsN_len h2]
theorem repsN_val : ∀ {kvs : List (NestedKey × D)} {es : List NE} (k : NestedKey), RepsN K ce F kvs es → match lk kvs k with
    | some d => ∃ v, valN es k = some v ∧ Rep K ce F d v
    | none => valN es k = none
  | [], es, k, h => by unfold RepsN at h; subst h; rfl
  | (k', d) :: r, es, k, h => by
    unfold RepsN at h
    obtain ⟨b, v, l, rfl, _, h1, h2⟩ := h
    unfold lk valN
    by_cases e : k' = k
    · subst e
      rw [if_pos rfl]
      exact ⟨v, by simp, h1⟩
    · rw [if_neg e]
      have ih := repsN_val k h2
      unfold valN at ih
      simp only [List.find?_cons, e, decide_false]
      exact ih
theorem repsN_any {kvs : List (NestedKey × D)} {es : List NE} (k : NestedKey) (h : RepsN K ce F kvs es) : (valN es k).isSome = kvs.any fun kv => decide (kv.1 = k) := by
  induction kvs generalizing es with
  | nil => unfold RepsN at h; subst h; rfl
  | cons p r ih =>
    obtain ⟨k', d⟩ := p
    unfold RepsN at h
    obtain ⟨b, v, l, rfl, _, h1, h2⟩ := h
    rw [List.any_cons]
    unfold valN
    by_cases e : k' = k
    · simp [e]
    · have := ih h2
      unfold valN at this
      simp only [List.find?_cons, e, decide_false, Bool.false_or]
      exact this
theorem repsN_snoc {k : NestedKey} {b : Addr} {d : D} {v : V} (h0 : NIs F k (.ref b) ∧ k.depth ≤ 8) (hd : Rep K ce F d v) : ∀ {kvs : List (NestedKey × D)} {es : List NE}, RepsN K ce F kvs es → RepsN K ce F (kvs ++ [(k, d)]) (es ++ [(k, b, v)])
  | [], es, h => by
    unfold RepsN at h; subst h
    show RepsN K ce F [(k, d)] [(k, b, v)]
    unfold RepsN
    refine ⟨b, v, [], rfl, h0, hd, ?_⟩
    unfold RepsN
    rfl
  | (k', d') :: r, es, h => by
    unfold RepsN at h
    obtain ⟨b', v', l, rfl, h1, h2, h3⟩ := h
    rw [List.cons_append, List.cons_append]
    unfold RepsN
    exact ⟨b', v', _, rfl, h1, h2, repsN_snoc h0 hd h3⟩
theorem repsN_repl {k : NestedKey} {d : D} {v : V} (hd : Rep K ce F d v) : ∀ {kvs : List (NestedKey × D)} {es : List NE}, RepsN K ce F kvs es →
    RepsN K ce F (kvs.map fun kv => if kv.1 = k then (kv.1, d) else kv) (es.map fun p => if p.1 = k then (p.1, p.2.1, v) else p)
  | [], es, h => by unfold RepsN at h; subst h; show RepsN K ce F [] []; unfold RepsN; rfl
  | (k', d') :: r, es, h => by
    unfold RepsN at h
    obtain ⟨b', v', l, rfl, h1, h2, h3⟩ := h
    rw [List.map_cons, List.map_cons]
    by_cases e : k' = k
    · simp only [e, if_true]
      unfold RepsN
      exact ⟨b', v, _, rfl, by rw [← e]; exact h1, hd, repsN_repl hd h3⟩
    · simp only [e, if_false]
      unfold RepsN
      exact ⟨b', v', _, rfl, h1, h2, repsN_repl hd h3⟩
theorem repsN_put {k : NestedKey} {b : Addr} {d : D} {v : V} {kvs : List (NestedKey × D)} {es : List NE} (h0 : NIs F k (.ref b) ∧ k.depth ≤ 8) (hd : Rep K ce F d v) (h : RepsN K ce F kvs es) : RepsN K ce F (putD kvs k d) (putN es k b v) := by
  unfold putD putN
  rw [repsN_any k h]
  split
  · exact repsN_repl hd h
  · exact repsN_snoc h0 hd h
theorem nlk_get {d k : D} {v y : V} {o : Option D} (s : Same F H) (hd : BRep K ce F H d v) (hk : BRep K ce F H k y) (e : nlk d k = some o) : ∃ a r es, v = .ref a ∧ H a = some (NObj a es) ∧ NGet H a y r ∧ r.isSome = o.isSome ∧ ∀ z, o = some z → ∃ w, r = some w ∧ Rep K ce F z w := by
  cases d <;> first | (cases e; done) | skip
  rename_i kvs
  have e' : ((nkT k).map fun k => lk kvs k) = some o := e
  cases q : nkT k with
  | none => rw [q] at e'; cases e'
  | some kk =>
    rw [q] at e'
    replace e' : some (lk kvs kk) = some o := e'
    injection e' with e'
    subst e'
    obtain ⟨a, es, rfl, h1, h2⟩ := hd
    obtain ⟨b, rfl, h3, h4⟩ := nkT_is s hk q
    have hv := repsN_val kk h2
    refine ⟨a, valN es kk, es, rfl, h1, ⟨es, kk, b, h1, (repsN_keys h2).mono s, rfl, h3, h4, rfl⟩, ?_, fun z ez => ?_⟩
    · cases q2 : lk kvs kk with
      | none => rw [q2] at hv; rw [show valN es kk = none from hv]; rfl
      | some z => rw [q2] at hv; obtain ⟨w, hw, _⟩ := hv; rw [hw]; rfl
    · rw [ez] at hv
      exact hv
variable {t ta tb tc : TE} {f g h : EFn}
theorem den_nget (x : DenB K ce W ta f) (y : DenB K ce W tb g) : DenV K ce W (tNGet ta tb) (e2 ngetD f g) := fun Γ σ F H Q ev h => by
  refine x Γ σ F H _ ev (Res.wp_mono (Res.wp_bind h) (fun _ z => z) fun d _ k v F1 H1 e1 r1 => ?_)
  refine y Γ σ F1 H1 _ (ev.ext e1) (Res.wp_mono (Res.wp_bind k) (fun _ z => W.mono e1.sH z) fun kd _ k2 u F2 H2 e2 r2 => ?_)
  unfold ngetD at k2
  split at k2
  · rename_i z q
    obtain ⟨a, r, es, rfl, _, hg, _, hz⟩ := nlk_get e2.sub (BRep.mono e2.sF e2.sH _ _ r1) r2 q
    obtain ⟨w, rfl, hw⟩ := hz z rfl
    exact ⟨a, w, rfl, hg, k2 w F2 H2 (e1.trans e2) hw⟩
  · exact k2.elim
theorem den_nin (x : DenB K ce W ta f) (y : DenB K ce W tb g) : DenV K ce W (tNIn ta tb) (e2 ninD f g) := fun Γ σ F H Q ev h => by
  refine x Γ σ F H _ ev (Res.wp_mono (Res.wp_bind h) (fun _ z => z) fun kd _ k v F1 H1 e1 r1 => ?_)
  refine y Γ σ F1 H1 _ (ev.ext e1) (Res.wp_mono (Res.wp_bind k) (fun _ z => W.mono e1.sH z) fun d _ k2 u F2 H2 e2 r2 => ?_)
  unfold ninD at k2
  split at k2
  · rename_i o q
    obtain ⟨a, r, es, rfl, _, hg, hs, _⟩ := nlk_get e2.sub r2 (BRep.mono e2.sF e2.sH _ _ r1) q
    exact ⟨a, r, rfl, hg, by rw [hs]; exact k2 _ F2 H2 (e1.trans e2) (rBl _)⟩
  · exact k2.elim
theorem den_nnin (x : DenB K ce W ta f) (y : DenB K ce W tb g) : DenV K ce W (tNNotIn ta tb) (e2 nninD f g) := fun Γ σ F H Q ev h => by
  refine x Γ σ F H _ ev (Res.wp_mono (Res.wp_bind h) (fun _ z => z) fun kd _ k v F1 H1 e1 r1 => ?_)
  refine y Γ σ F1 H1 _ (ev.ext e1) (Res.wp_mono (Res.wp_bind k) (fun _ z => W.mono e1.sH z) fun d _ k2 u F2 H2 e2 r2 => ?_)
  unfold nninD at k2
  split at k2
  · rename_i o q
    obtain ⟨a, r, es, rfl, _, hg, hs, _⟩ := nlk_get e2.sub r2 (BRep.mono e2.sF e2.sH _ _ r1) q
    exact ⟨a, r, rfl, hg, by rw [hs]; exact k2 _ F2 H2 (e1.trans e2) (rBl _)⟩
  · exact k2.elim
theorem isN_is {d : D} {v : V} (e : isN_ d = true) (h : BRep K ce F H d v) : ∃ a es, v = .ref a ∧ H a = some (NObj a es) := by
  cases d <;> first | (cases e; done) | skip
  obtain ⟨a, es, rfl, h1, _⟩ := h
  exact ⟨a, es, rfl, h1⟩
theorem den_ng1 (x : DenB K ce W ta f) (y : DenB K ce W tb g) : DenV K ce W (tNGet1 ta tb) (eNg1 f g) := fun Γ σ F H Q ev h => by
  refine x Γ σ F H _ ev (Res.wp_mono (Res.wp_bind h) (fun _ z => z) fun d _ k v F1 H1 e1 r1 => ?_)
  split at k
  · rename_i hn
    obtain ⟨a, es, rfl, h1⟩ := isN_is hn r1
    refine ⟨a, es, rfl, h1, y Γ σ F1 H1 _ (ev.ext e1) (Res.wp_mono (Res.wp_bind k) (fun _ z => W.mono e1.sH z) fun kd _ k2 u F2 H2 e2 r2 => ?_)⟩
    split at k2
    · rename_i o q
      obtain ⟨a', r, es', e', _, hg, hs, hz⟩ := nlk_get e2.sub (BRep.mono e2.sF e2.sH _ _ r1) r2 q
      cases e'
      refine ⟨r, hg, ?_⟩
      cases o with
      | none =>
        have : r = none := by cases r with | none => rfl | some _ => simp at hs
        subst this
        exact k2 _ F2 H2 (e1.trans e2) rNon
      | some z =>
        obtain ⟨w, rfl, hw⟩ := hz z rfl
        exact k2 _ F2 H2 (e1.trans e2) hw
    · exact k2.elim
  · exact k.elim
theorem den_ng2 (x : DenB K ce W ta f) (y : DenB K ce W tb g) (zz : DenV K ce W tc h) : DenV K ce W (tNGet2 ta tb tc) (eNg2 f g h) := fun Γ σ F H Q ev hh => by
  refine x Γ σ F H _ ev (Res.wp_mono (Res.wp_bind hh) (fun _ z => z) fun d _ k v F1 H1 e1 r1 => ?_)
  split at k
  · rename_i hn
    obtain ⟨a, es, rfl, h1⟩ := isN_is hn r1
    refine ⟨a, es, rfl, h1, y Γ σ F1 H1 _ (ev.ext e1) (Res.wp_mono (Res.wp_bind k) (fun _ z => W.mono e1.sH z) fun kd _ k2 u F2 H2 e2 r2 => ?_)⟩
    refine zz Γ σ F2 H2 _ ((ev.ext e1).ext e2) (Res.wp_mono (Res.wp_bind k2) (fun _ z => W.mono (e1.trans e2).sH z) fun zd _ k3 zv F3 H3 e3 r3 => ?_)
    split at k3
    · rename_i o q
      have e23 := e2.trans e3
      obtain ⟨a', r, es', e', _, hg, hs, hz⟩ := nlk_get e3.sub (BRep.mono e23.sF e23.sH _ _ r1) (BRep.mono e3.sF e3.sH _ _ r2) q
      cases e'
      refine ⟨r, hg, ?_⟩
      cases o with
      | none =>
        have : r = none := by cases r with | none => rfl | some _ => simp at hs
        subst this
        exact k3 _ F3 H3 (e1.trans e23) r3
      | some z =>
        obtain ⟨w, rfl, hw⟩ := hz z rfl
        exact k3 _ F3 H3 (e1.trans e23) hw
    · exact k3.elim
  · exact k.elim
theorem den_nnew : DenF K ce W tNNew (eC (.dN [])) := fun Γ σ F H Q ev h p hp => h p _ F _ (.laid ev.sub hp) (ev.sub.free hp) hp upd_same ⟨[], rfl, by unfold RepsN; rfl⟩
theorem cd_lenN : CallDen K ce rLenN lenN := fun E F H xs ds Q s ha h => by
  unfold lenN at h
  split at h
  · obtain ⟨v, rfl, a, es, rfl, hp, hv⟩ := br1 ha
    exact ⟨a, es, rfl, hp, (repsN_keys hv).mono s, by rw [repsN_len hv]; exact h _ F H (.refl s) (rInt _)⟩
  · exact h.elim
/-- {k: v} -/
def eNOne (f g : EFn) : EFn := fun Γ => (f Γ).bind fun k => (g Γ).bind fun v => nput (.dN []) k v
theorem nput_ok {m k d m' : D} {es : List NE} {a : Addr} {y v : V} (s : Same F H) (e : nput m k d = .ok m') (ha : H a = some (NObj a es)) (hm : ObjRep K ce F a m (NObj a es)) (hk : Rep K ce F k y) (hv : Rep K ce F d v) :
    ∃ es', NPut H a y v (upd H a (NObj a es')) ∧ ObjRep K ce F a m' (NObj a es') := by
  cases m <;> first | (cases e; done) | skip
  case dN kvs =>
    cases q : nkT k with
    | none => unfold nput at e; rw [q] at e; cases e
    | some kk =>
      unfold nput at e
      rw [q] at e
      simp only at e
      split at e
      · rename_i hz
        cases e
        obtain ⟨es2, e2, h2⟩ := hm
        obtain ⟨b, rfl, h3, h4⟩ := nkT_isF hk q
        rw [e2] at ha
        refine ⟨putN es2 kk b v, ⟨es2, kk, b, ha, (repsN_keys h2).mono s, rfl, NIs.mono s _ _ h3, h4, by rw [repsN_len h2]; exact hz, rfl⟩, _, rfl, repsN_put ⟨h3, h4⟩ hv h2⟩
      · cases e
theorem nput_noexc {m k d : D} {c : Exn} (h : nput m k d = .exc c) : False := by
  unfold nput at h
  split at h
  · split at h <;> cases h
  · cases h
theorem den_none_ (x : DenV K ce W ta f) (y : DenV K ce W tb g) : DenF K ce W (tNOne ta tb) (eNOne f g) := fun Γ σ F H Q ev h p hp => by
  have x0 : Ext F H F (upd H p (NObj p [])) := .laid ev.sub hp
  refine x Γ σ F _ _ (ev.ext x0) (Res.wp_mono (Res.wp_bind h) (fun _ z => W.mono x0.sH z) fun k _ k1 v F1 H1 e1 r1 => ?_)
  refine y Γ σ F1 H1 _ ((ev.ext x0).ext e1) (Res.wp_mono (Res.wp_bind k1) (fun _ z => W.mono (x0.trans e1).sH z) fun d _ k2 u F2 H2 e2 r2 => ?_)
  have hF : F p = none := ev.sub.free hp
  have e12 := e1.trans e2
  obtain ⟨hF2, hH2⟩ := ext_own e12 hF upd_same
  cases q : nput (.dN []) k d with
  | exc c => exact (nput_noexc q).elim
  | stuck => rw [q] at k2; exact k2.elim
  | ok m' =>
    rw [q] at k2
    obtain ⟨es', p1, p2⟩ := nput_ok (a := p) e2.sub q hH2 ⟨[], rfl, by unfold RepsN; rfl⟩ (Rep.mono e2.sF _ _ r1) r2
    have xx := x0.trans e12
    refine ⟨_, p1, k2 p _ F2 _ ⟨xx.sF, fun b o e => ?_, fun b o e => ?_, xx.new⟩ hF2 hp upd_same p2⟩
    · rw [upd_ne (ne_of_none e hp)]
      exact xx.sH _ _ e
    · rw [upd_ne (ne_of_none e hF2)]
      exact xx.sub _ _ e
end
/-- d[k] = e -/
def sPutN (i : Nat) (fk f : EFn) : SFn := fun Γ => thenR (f Γ) fun d => match Γ[i]? with
  | some (.own m) => thenR (fk Γ) fun k => thenR (nput m k d) fun m' => .nx (Γ.set i (.own m'))
  | _ => .stuck
section
variable {K : PySem.W.Frag} {ce : CE} {W : Wish} {z : Option Nat} {te ta tb : TE} {f fi : EFn}
theorem nput_obj {F : Hp} {m k d m' : D} {a : Addr} {o : HO} (e : nput m k d = .ok m') (hm : ObjRep K ce F a m o) : ∃ es, o = NObj a es := by
  cases m <;> first | (cases e; done) | skip
  obtain ⟨es, rfl, _⟩ := hm
  exact ⟨es, rfl⟩
theorem ds_putN {ty : TE} (i : Nat) (x : DenV K ce W te f) (y : DenV K ce W ty fi) : DenS K ce W z (sNPut (tVar i) ty te) (sPutN i fi f) := fun s0 H0 F0 Γ σ F H N st hh => by
  refine x Γ σ F H _ st.ev (Res.wp_mono (out_wp st hh) (fun _ z => z) fun d _ k v F1 H1 x1 r1 => ?_)
  have st1 := st.ext x1
  have k := OutOk.mono x1.sF k
  split at k
  · rename_i m e
    obtain ⟨a, o, h1, h2, h3, h4⟩ := st1.ev.cells i _ e
    refine ⟨_, h1, y Γ σ F1 H1 _ st1.ev (Res.wp_mono (out_wp st1 k) (fun _ z => z) fun kd _ k u F2 H2 x2 r2 => ?_)⟩
    obtain ⟨k2, k3⟩ := ext_own x2 h2 h3
    cases q : nput m kd d with
    | exc c => exact (nput_noexc q).elim
    | stuck => rw [q] at k; exact k.elim
    | ok m' =>
      rw [q] at k
      obtain ⟨es, rfl⟩ := nput_obj q h4
      obtain ⟨es', p1, p2⟩ := nput_ok x2.sub q k3 (ObjRep.mono x2.sF _ _ h4) r2 (Rep.mono x2.sF _ _ r1)
      exact ⟨a, _, rfl, p1, k σ F2 _ ((st1.ext x2).write e h1 k2 p2) x2.sF⟩
  · exact k.elim
end

/-! ### expressions that change an own object -/
/-- the value, the slots behind it -/
abbrev XFn := Slots → Res (D × Slots)
def DenX (K : PySem.W.Frag) (ce : CE) (W : Wish) (z : Option Nat) (t : TE) (g : XFn) : Prop := ∀ (s0 : Option (Option V)) (H0 F0 : Hp) (Γ : Slots) (σ : L2.St) (F H : Hp) (Q : VK), Sta K ce z s0 H0 F0 Γ σ F H →
  (g Γ).wp (W.W H0) (fun p => ∀ v F' H', Sta K ce z s0 H0 F0 p.2 σ F' H' → Same F F' → Rep K ce F' p.1 v → Q v H') → t σ H Q
/-- d.setdefault(k, e) -/
def xSetN (i : Nat) (fk f : EFn) : XFn := fun Γ => match Γ[i]? with
  | some (.own (.dN kvs)) => (fk Γ).bind fun k => (f Γ).bind fun d => match nkT k with
    | some k => if kvs.length < sizeLine then (match lk kvs k with
      | some d' => .ok (d', Γ)
      | none => .ok (d, Γ.set i (.own (.dN (kvs ++ [(k, d)]))))) else .stuck
    | none => .stuck
  | _ => .stuck
def xSetI (i : Nat) (fk f : EFn) : XFn := fun Γ => match Γ[i]? with
  | some (.own (.dI kvs)) => (fk Γ).bind fun k => (f Γ).bind fun d => match k with
    | .int k => if kvs.length < sizeLine then (match lk kvs k with
      | some d' => .ok (d', Γ)
      | none => .ok (d, Γ.set i (.own (.dI (kvs ++ [(k, d)]))))) else .stuck
    | _ => .stuck
  | _ => .stuck
section
variable {K : PySem.W.Frag} {ce : CE} {W : Wish} {z : Option Nat} {te ta tb : TE} {f fi : EFn} {g : XFn}
theorem res_out {α : Type} {H0 F0 F H : Hp} {Γ : Slots} {σ : L2.St} {s0 : Option (Option V)} (st : Sta K ce z s0 H0 F0 Γ σ F H) {r : Res α} {k : α → Prop} (h : r.wp (W.W H0) k) : r.wp (W.W H) k := Res.wp_mono h (fun e q => W.mono st.x.sH q) fun _ _ q => q
theorem lk_none_any {α : Type} [DecidableEq α] : ∀ {kvs : List (α × D)} {k : α}, lk kvs k = none → (kvs.any fun kv => decide (kv.1 = k)) = false
  | [], k, _ => rfl
  | (a, d) :: r, k, h => by
    unfold lk at h
    by_cases e : a = k
    · rw [if_pos e] at h; cases h
    · rw [if_neg e] at h
      rw [List.any_cons, lk_none_any h]
      simp [e]
theorem dx_setN (i : Nat) (x : DenV K ce W ta fi) (y : DenV K ce W tb f) : DenX K ce W z (tNSetd (tVar i) ta tb) (xSetN i fi f) := fun s0 H0 F0 Γ σ F H Q st hh => by
  unfold xSetN at hh
  split at hh
  · rename_i kvs e
    obtain ⟨a, o, h1, h2, h3, es, rfl, h4⟩ := st.ev.cells i _ e
    refine ⟨_, h1, a, es, rfl, h3, x Γ σ F H _ st.ev (Res.wp_mono (Res.wp_bind (res_out st hh)) (fun _ q => q) fun kd _ k u F1 H1 x1 r1 => ?_)⟩
    refine y Γ σ F1 H1 _ (st.ev.ext x1) (Res.wp_mono (Res.wp_bind k) (fun _ q => W.mono x1.sH q) fun d _ k2 w F2 H2 x2 r2 => ?_)
    have x12 := x1.trans x2
    obtain ⟨q1, q2⟩ := ext_own x12 h2 h3
    have h4' := RepsN.mono x12.sF _ _ h4
    split at k2
    · rename_i kk ek
      obtain ⟨b, rfl, h5, h6⟩ := nkT_isF (Rep.mono x2.sF _ _ r1) ek
      have hv := repsN_val kk h4'
      split at k2
      · rename_i hz
        refine ⟨es, kk, b, q2, (repsN_keys h4').mono x2.sub, rfl, NIs.mono x2.sub _ _ h5, h6, by rw [repsN_len h4']; exact hz, fun v hv' => ?_, fun hn => ?_⟩
        · cases el : lk kvs kk with
          | none =>
            rw [el] at hv
            rw [show valN es kk = none from hv] at hv'
            cases hv'
          | some d' =>
            rw [el] at hv k2
            obtain ⟨w', hw, hr⟩ := hv
            rw [hw] at hv'
            cases hv'
            exact k2 _ F2 H2 (st.ext x12) x12.sF hr
        · cases el : lk kvs kk with
          | some d' =>
            rw [el] at hv
            obtain ⟨w', hw, hr⟩ := hv
            rw [hw] at hn
            cases hn
          | none =>
            rw [el] at k2
            have hp : putN es kk b w = es ++ [(kk, b, w)] := by unfold putN; rw [hn]; rfl
            rw [hp]
            exact k2 w F2 _ ((st.ext x12).write e h1 q1 ⟨_, rfl, repsN_snoc ⟨h5, h6⟩ r2 h4'⟩) x12.sF r2
      · exact k2.elim
    · exact k2.elim
  · exact hh.elim
theorem dx_setI (i : Nat) (x : DenB K ce W ta fi) (y : DenV K ce W tb f) : DenX K ce W z (tDSetd (tVar i) ta tb) (xSetI i fi f) := fun s0 H0 F0 Γ σ F H Q st hh => by
  unfold xSetI at hh
  split at hh
  · rename_i kvs e
    obtain ⟨a, o, h1, h2, h3, l, rfl, h4⟩ := st.ev.cells i _ e
    refine ⟨_, h1, a, rfl, .inl ⟨l, .inl h3⟩, x Γ σ F H _ st.ev (Res.wp_mono (Res.wp_bind (res_out st hh)) (fun _ q => q) fun kd _ k u F1 H1 x1 r1 => ?_)⟩
    refine y Γ σ F1 H1 _ (st.ev.ext x1) (Res.wp_mono (Res.wp_bind k) (fun _ q => W.mono x1.sH q) fun d _ k2 w F2 H2 x2 r2 => ?_)
    have x12 := x1.trans x2
    obtain ⟨q1, q2⟩ := ext_own x12 h2 h3
    have h4' := repsI_iff.mp (RepsI.mono x12.sF _ _ h4)
    split at k2
    · rename_i kk hkk
      cases (show u = V.int kk from r1)
      have hv := RKV.val (fun a b => Sum.inl.inj) kk h4'
      split at k2
      · rename_i hz
        refine ⟨l, Sum.inl kk, q2, rfl, by rw [h4'.length]; exact hz, fun v hv' => ?_, fun hn => ?_⟩
        · cases el : lk kvs kk with
          | none =>
            rw [el] at hv
            rw [show valV l (Sum.inl kk) = none from hv] at hv'
            cases hv'
          | some d' =>
            rw [el] at hv k2
            obtain ⟨w', hw, hr⟩ := hv
            rw [hw] at hv'
            cases hv'
            exact k2 _ F2 H2 (st.ext x12) x12.sF hr
        · cases el : lk kvs kk with
          | some d' =>
            rw [el] at hv
            obtain ⟨w', hw, hr⟩ := hv
            rw [hw] at hn
            cases hn
          | none =>
            rw [el] at k2
            have hp : putD kvs kk d = kvs ++ [(kk, d)] := by unfold putD; rw [lk_none_any el]; rfl
            have := h4'.put (fun a b => Sum.inl.inj) r2 kk
            rw [hp] at this
            exact k2 w F2 _ ((st.ext x12).write e h1 q1 ⟨_, rfl, repsI_iff.mpr this⟩) x12.sF r2
      · exact k2.elim
    · exact k2.elim
  · exact hh.elim
/-- statements around one -/
def sValX (j : Nat) (g : XFn) : SFn := fun Γ => thenR (g Γ) fun p => .nx (p.2.set j (.val p.1))
def sDropX (g : XFn) : SFn := fun Γ => thenR (g Γ) fun p => .nx p.2
def sPutX (j : Nat) (fk : EFn) (g : XFn) : SFn := fun Γ => thenR (g Γ) fun p => sPut j fk (eC p.1) p.2
def sRetX_ (g : XFn) : SFn := fun Γ => thenR (g Γ) fun p => .rt p.1
theorem out_wp0 {α : Type} {s0 : Option (Option V)} {H0 F0 F H : Hp} {Γ : Slots} {σ : L2.St} {En : Ends} {r : Res α} {k : α → Out} (st : Sta K ce z s0 H0 F0 Γ σ F H) (h : OutOk K ce W z s0 H0 F0 F En (thenR r k)) : r.wp (W.W H0) fun a => OutOk K ce W z s0 H0 F0 F En (k a) := by
  cases r with
  | ok a => exact h
  | exc e => exact h
  | stuck => exact h
theorem ds_valX (j : Nat) (x : DenX K ce W z te g) (hz : z ≠ some j := by decide) : DenS K ce W z (tAsg te (gName j)) (sValX j g) := fun s0 H0 F0 Γ σ F H N st hh =>
  x s0 H0 F0 Γ σ F H _ st (Res.wp_mono (out_wp0 st hh) (fun _ q => q) fun p _ k v F' H' st' s' r => k _ F' H' (Sta.setV hz st' r) s')
theorem ds_dropX (x : DenX K ce W z te g) : DenS K ce W z (tDrop te) (sDropX g) := fun s0 H0 F0 Γ σ F H N st hh =>
  x s0 H0 F0 Γ σ F H _ st (Res.wp_mono (out_wp0 st hh) (fun _ q => q) fun p _ k v F' H' st' s' r => k _ F' H' st' s')
theorem ds_retXX (x : DenX K ce W z te g) : DenS K ce W z (tRet te) (sRetX_ g) := fun s0 H0 F0 Γ σ F H N st hh =>
  x s0 H0 F0 Γ σ F H _ st (Res.wp_mono (out_wp0 st hh) (fun _ q => q) fun p _ k v F' H' st' s' r => k v F' H' st'.x r)
theorem ds_putX {ty : TE} (j : Nat) (x : DenX K ce W z te g) (y : DenB K ce W ty fi) : DenS K ce W z (sDPut (tVar j) ty te) (sPutX j fi g) := fun s0 H0 F0 Γ σ F H N st hh => by
  refine x s0 H0 F0 Γ σ F H _ st (Res.wp_mono (out_wp0 st hh) (fun _ q => q) fun p _ k v F1 H1 st1 s1 r1 => ?_)
  have k := OutOk.mono s1 k
  unfold sPut at k
  simp only [eC] at k
  replace k : OutOk K ce W z s0 H0 F0 F1 N (match p.2[j]? with
    | some (.own m) => thenR (fi p.2) fun k => thenR (dput m k p.1) fun m' => .nx (p.2.set j (.own m'))
    | _ => .stuck) := k
  split at k
  · rename_i m e
    obtain ⟨a, o, h1, h2, h3, h4⟩ := st1.ev.cells j _ e
    refine ⟨_, h1, y p.2 σ F1 H1 _ st1.ev (Res.wp_mono (out_wp st1 k) (fun _ z => z) fun kd _ k u F2 H2 x2 r2 => ?_)⟩
    obtain ⟨k2, k3⟩ := ext_own x2 h2 h3
    cases q : dput m kd p.1 with
    | exc c => exact (dput_noexc q).elim
    | stuck => rw [q] at k; exact k.elim
    | ok m' =>
      rw [q] at k
      obtain ⟨o', p1, p2⟩ := dput_ok q k3 (ObjRep.mono x2.sF _ _ h4) r2 (Rep.mono x2.sF _ _ r1)
      exact ⟨a, _, rfl, p1, k σ F2 _ ((st1.ext x2).write e h1 k2 p2) x2.sF⟩
  · exact k.elim
end

/-! ### facts of the written part -/
theorem kit_same {K : PySem.W.Frag} {C : Addr} : PySem.W.kitOne K (.ref C) (.ref C) = some true := by
  unfold PySem.W.kitOne
  rw [if_pos (beq_self_eq_true _)]
theorem kit_ref {K : PySem.W.Frag} {C B : Addr} {b : Bool} (hd : PySem.W.hasDictIn K B = true) (ht : PySem.W.typeIn K (.ref B) = some (.type "type")) (h : PySem.W.subIn K (.ref C) (.ref B) = some b) (hne : decide (C = B) = false) : PySem.W.kitOne K (.ref C) (.ref B) = some b := by
  obtain ⟨cd, hc, _⟩ := PySem.W.any_some hd
  have e2 : ((PySem.W.clsIn K B).isSome && PySem.W.typeIn K (.ref B) == some (.type "type")) = true := by rw [hc, ht] <;> rfl
  unfold PySem.W.kitOne
  rw [if_neg (fun e => by
    have e' : (Value.ref C) = Value.ref B := eq_of_beq e
    cases e'
    simp at hne)]
  show (if ((PySem.W.clsIn K B).isSome && PySem.W.typeIn K (.ref B) == some (.type "type")) = true then PySem.W.subIn K (.ref C) (.ref B) else none) = some b
  rw [if_pos e2]
  exact h
theorem kit_type {K : PySem.W.Frag} {C : Addr} {T : String} {b : Bool} (h : PySem.W.subIn K (.ref C) (.type T) = some b) (hm : PySem.W.kitMeta T = true := by decide +kernel) : PySem.W.kitOne K (.ref C) (.type T) = some b := by
  unfold PySem.W.kitOne
  rw [if_neg (fun e => by
    have e' : (Value.ref C) = Value.type T := eq_of_beq e
    cases e')]
  show (if PySem.W.kitMeta T = true then PySem.W.subIn K (.ref C) (.type T) else none) = some b
  rw [if_pos hm]
  exact h
end FL

/-! FL12: a tuple handed back whose own parts are the caller's. -/
namespace FL
open PySem PySem.Spec PyProof.Rows L2

def DenRC (K : PySem.W.Frag) (ce : CE) (W : Wish) (z : Option Nat) (is : List Nat) (t : TA) (f : Slots → Res (List Cel)) : Prop := ∀ (s0 : Option (Option V)) (H0 F0 : Hp) (Γ : Slots) (σ : L2.St) (F H : Hp) (Q : List V → Hp → Prop), Sta K ce z s0 H0 F0 Γ σ F H →
  (f Γ).wp (W.W H0) (fun cs => ∀ vs F' H', Ext F H F' H' → CelsOk K ce H0 F' H' cs vs → (∀ (j : Nat) (e : D), cs[j]? = some (.own e) → ∃ i ∈ is, ∃ d a, Γ[i]? = some (.own d) ∧ vs[j]? = some (.ref a) ∧ σ[i]? = some (some (.ref a))) → Q vs H') → t σ H Q
def rcNil : Slots → Res (List Cel) := fun _ => .ok []
def rcVal (f : EFn) (fs : Slots → Res (List Cel)) : Slots → Res (List Cel) := fun Γ => (f Γ).bind fun d => (fs Γ).bind fun cs => .ok (.val d :: cs)
def rcOwn (i : Nat) (fs : Slots → Res (List Cel)) : Slots → Res (List Cel) := fun Γ => match Γ[i]? with
  | some (.own d) => (fs Γ).bind fun cs => .ok (.own d :: cs)
  | _ => .stuck
def sRetC (fs : Slots → Res (List Cel)) : SFn := fun Γ => thenR (fs Γ) fun cs => if cs.length ≤ sizeLine then .rc cs else .stuck
section
variable {K : PySem.W.Frag} {ce : CE} {W : Wish} {z : Option Nat} {te : TE} {tA : TA} {f : EFn} {fs : Slots → Res (List Cel)} {is : List Nat}
theorem drc_nil : DenRC K ce W z [] tNil rcNil := fun s0 H0 F0 Γ σ F H Q st h => h [] F H (.refl st.ev.sub) rfl (fun j e q => by simp at q)
theorem drc_val (x : DenV K ce W te f) (y : DenRC K ce W z is tA fs) : DenRC K ce W z is (tCons te tA) (rcVal f fs) := fun s0 H0 F0 Γ σ F H Q st h => by
  refine x Γ σ F H _ st.ev (Res.wp_mono (Res.wp_bind (res_out st h)) (fun _ q => q) fun d hd k v F1 H1 x1 r1 => ?_)
  have h1 : ((fs Γ).bind fun cs => .ok (.val d :: cs)).wp (W.W H0) (fun cs => ∀ vs F' H', Ext F H F' H' → CelsOk K ce H0 F' H' cs vs → (∀ (j : Nat) (e : D), cs[j]? = some (.own e) → ∃ i ∈ is, ∃ d a, Γ[i]? = some (.own d) ∧ vs[j]? = some (.ref a) ∧ σ[i]? = some (some (.ref a))) → Q vs H') := by
    have := h
    unfold rcVal at this
    rw [hd] at this
    exact this
  refine y s0 H0 F0 Γ σ F1 H1 _ (st.ext x1) (Res.wp_mono (Res.wp_bind h1) (fun _ q => q) fun cs _ k2 vs F2 H2 x2 r2 o2 => ?_)
  refine k2 (v :: vs) F2 H2 (x1.trans x2) ⟨v, vs, rfl, ⟨v, rfl, Rep.mono x2.sF _ _ r1⟩, trivial, r2⟩ fun j e q => ?_
  cases j with
  | zero => simp at q
  | succ j =>
    simp only [List.getElem?_cons_succ] at q ⊢
    exact o2 j e q
theorem drc_own (i : Nat) (y : DenRC K ce W z is tA fs) (hi : i ∉ is := by decide) : DenRC K ce W z (i :: is) (tCons (tVar i) tA) (rcOwn i fs) := fun s0 H0 F0 Γ σ F H Q st h => by
  unfold rcOwn at h
  split at h
  · rename_i d e
    obtain ⟨a, o, h1, h2, h3, h4⟩ := st.ev.cells i _ e
    refine ⟨_, h1, y s0 H0 F0 Γ σ F H _ st (Res.wp_mono (Res.wp_bind h) (fun _ q => q) fun cs _ k2 vs F2 H2 x2 r2 o2 => ?_)⟩
    obtain ⟨q1, q2⟩ := ext_own x2 h2 h3
    refine k2 (.ref a :: vs) F2 H2 x2 ⟨_, vs, rfl, ⟨a, o, rfl, q1, q2, ObjRep.mono x2.sF _ _ h4⟩, ⟨a, rfl, st.own i d a e h1, fun j e' q3 q4 => ?_⟩, r2⟩ fun j e' q => ?_
    · obtain ⟨i', hi', d', a', p1, p2, p3⟩ := o2 j e' q3
      rw [q4] at p2
      cases p2
      exact st.sep i i' d d' a (fun z => hi (z ▸ hi')) e p1 h1 p3
    · cases j with
      | zero => exact ⟨i, List.mem_cons_self, d, a, e, rfl, h1⟩
      | succ j =>
        simp only [List.getElem?_cons_succ] at q ⊢
        obtain ⟨i', hi', r⟩ := o2 j e' q
        exact ⟨i', List.mem_cons_of_mem _ hi', r⟩
  · exact h.elim
theorem ds_retC (x : DenRC K ce W z is tA fs) : DenS K ce W z (tRet (tTup tA)) (sRetC fs) := fun s0 H0 F0 Γ σ F H N st hh => by
  refine x s0 H0 F0 Γ σ F H _ st (Res.wp_mono (out_wp0 st hh) (fun _ q => q) fun cs _ k vs F1 H1 x1 r1 _ => ?_)
  split at k
  · rename_i hz
    refine ⟨by rw [r1.length]; exact hz, fun p hp => ?_⟩
    have xx := st.x.trans x1
    have x2 : Ext F1 H1 F1 (upd H1 p (.tup vs)) := .laid x1.sub hp
    exact k p vs F1 _ (xx.trans x2) (x1.sub.free hp) (xx.sH.free hp) upd_same (r1.later x2)
  · exact k.elim
end
/-- a def that hands back a tuple of cells -/
def SpC (K : PySem.W.Frag) (ce : CE) (n : Nat) (ms : List Bool) (M : List D → Res (List Cel)) : Sp := fun vs H Q E => ∃ F ds, Same F H ∧ ds.length = n ∧ ArgsOk K ce F H ms ds vs ∧
  (M ds).wp (ExW ce E H) (fun cs => ∀ a us F' H', Ext F H F' H' → F' a = none → H a = none → H' a = some (.tup us) → CelsOk K ce H F' H' cs us → Q (.ref a) H')
def outC : Out → Res (List Cel)
  | .rc cs => .ok cs
  | _ => .stuck
def runC (N : Nat) (ms : List Bool) (g : SFn) : List D → Res (List Cel) := fun ds => outC (g (initG N ms ds))
section
variable {P : Program} {w : World} {K : PySem.W.Frag} {mg : Str → Option Value} {base : Heap} {ce : CE}
theorem fn_okC {x qual : Str} {st : Stmt} {f : Addr} {fd : FuncData} {N ps : List Str} {k : Nat} {ms : List Bool} {g : SFn} (Fn : Fun K x qual st f fd) (S : FnScope N ps (defScope st))
    (hbody : ∀ (cdv : Value) (A : Around) (outer : List PySem.Env) (s : Shared) (H : Hp) (E : XK), Room k (A.deeper (envOfC qual (defScope st) s.heap.objs.size f cdv)) →
      ∃ t, PSs (cxOf CX0 P w K mg base N qual (defScope st) f cdv A outer s H E).nox (defBody st) t ∧ DenS K ce .none none t g) :
    FnOk P w K mg base CX0 (k + 1) f fd ps (SpC K ce ps.length ms (runC N.length ms g)) := by
  refine Fn.ok S (fun vs H Q E h => ?_) (fun cdv A outer s H vs Q E hr h => ?_)
  · obtain ⟨F, ds, _, hl, ha, _⟩ := h
    rw [ha.length, hl]
  · obtain ⟨t, hp, hd⟩ := hbody cdv A outer s H E hr
    obtain ⟨F, ds, hs, hl, ha, hw⟩ := h
    refine ⟨t, hp, hd none H F (initG N.length ms ds) _ F H _ (sta_init hs ha) ?_⟩
    unfold runC at hw
    cases q : g (initG N.length ms ds) with
    | rc cs => rw [q] at hw; exact hw
    | nx Γ => rw [q] at hw; exact hw.elim
    | rt d => rw [q] at hw; exact hw.elim
    | ro d => rw [q] at hw; exact hw.elim
    | exc e => rw [q] at hw; exact hw.elim
    | bk Γ => rw [q] at hw; exact hw.elim
    | ct Γ => rw [q] at hw; exact hw.elim
    | stuck => rw [q] at hw; exact hw.elim
end
/-- x, y = f(..) -/
def sParC (is : List Nat) (M : List D → Res (List Cel)) (fs : Slots → Res (List D)) : SFn := fun Γ => thenR ((fs Γ).bind M) fun cs => if cs.length = is.length then .nx (setAll Γ is cs) else .stuck
section
variable {K : PySem.W.Frag} {ce : CE} {W : Wish} {z : Option Nat} {n : Nat} {ms : List Bool} {tA : TA} {fs : Slots → Res (List D)} {M : List D → Res (List Cel)}
theorem ds_parC (is : List Nat) {tg : TG} {E : XK} (e : tg = gTup K is.length (gNames is)) (hW : ∀ H e, W.W H e → ExW ce E H e) (x : DenM K ce W n ms tA fs) (hz : ∀ k ∈ is, z ≠ some k := by decide) :
    DenS K ce W z (tAsg (tCall (SpC K ce n ms M) [] E tA) tg) (sParC is M fs) := fun s0 H0 F0 Γ σ F H N st hh => by
  subst e
  refine x Γ σ F H _ st.ev (Res.wp_mono (Res.wp_bind (out_wp st hh)) (fun _ q => q) fun ds _ k vs F1 H1 x1 hl r1 => ?_)
  rw [List.append_nil]
  refine ⟨F1, ds, x1.sub, hl, r1, Res.wp_mono k (fun c q => hW _ _ (W.mono x1.sH q)) fun cs _ k2 a us F2 H2 x2 hF2 hN hH2 r2 => ?_⟩
  split at k2
  · rename_i hc
    have hv := r2.length
    rw [hc] at hv
    have x12 := x1.trans x2
    exact ⟨a, us, rfl, .of hH2, hv, gNames_run hv (k2 _ F2 H2 (par_core hz st x12 (r2.old x1.sH) hc) x12.sF)⟩
  · exact k2.elim
end
end FL

/-! FL13: {k: v} with a whole number. -/
namespace FL
open PySem PySem.Spec PyProof.Rows L2

def eIOne (f g : EFn) : EFn := fun Γ => (f Γ).bind fun k => (g Γ).bind fun v => match k with
  | .int i => .ok (.dI [(i, v)])
  | _ => .stuck
section
variable {K : PySem.W.Frag} {ce : CE} {W : Wish} {ta tb : TE} {f g : EFn}
theorem den_ione (x : DenV K ce W ta f) (y : DenV K ce W tb g) : DenF K ce W (tDisp [(ta, tb)]) (eIOne f g) := fun Γ σ F H Q ev h p hp => by
  have x0 : Ext F H F (upd H p (.dK [])) := .laid ev.sub hp
  refine x Γ σ F _ _ (ev.ext x0) (Res.wp_mono (Res.wp_bind h) (fun _ z => W.mono x0.sH z) fun k _ k1 v F1 H1 e1 r1 => ?_)
  refine y Γ σ F1 H1 _ ((ev.ext x0).ext e1) (Res.wp_mono (Res.wp_bind k1) (fun _ z => W.mono (x0.trans e1).sH z) fun d _ k2 u F2 H2 e2 r2 => ?_)
  have hF : F p = none := ev.sub.free hp
  have e12 := e1.trans e2
  obtain ⟨hF2, hH2⟩ := ext_own e12 hF upd_same
  cases k with
  | int i =>
    have rv : v = .int i := by unfold Rep at r1; exact r1
    subst rv
    refine ⟨hH2, [(.inl i, u)], rfl, by simp, ?_⟩
    have xx := x0.trans e12
    refine k2 p _ F2 _ ⟨xx.sF, fun b o e => ?_, fun b o e => ?_, xx.new⟩ hF2 hp upd_same ⟨[(.inl i, u)], rfl, ?_⟩
    · rw [upd_ne (ne_of_none e hp)]
      exact xx.sH _ _ e
    · rw [upd_ne (ne_of_none e hF2)]
      exact xx.sub _ _ e
    · unfold RepsI
      exact ⟨u, [], rfl, r2, by unfold RepsI; rfl⟩
  | _ => exact k2.elim
/-- max(xs, default=d) -/
def maxDefD (a b : D) : Res D := match a, b with
  | .lst ds, .int d => match asInts ds with
    | some ns => .ok (.int (maxN d ns))
    | none => .stuck
  | _, _ => .stuck
theorem den_maxDef (x : DenB K ce W ta f) (y : DenB K ce W tb g) : DenV K ce W (tCKw (fun vs zs H Q => ∃ (a : Addr) (ns : List Int) (d : Int), vs = [.ref a] ∧ zs = [.int d] ∧ SqL K H a (ns.map V.int) ∧ Q (.int (maxN d ns)) H) (tCons ta tNil) (tCons tb tNil)) (e2 maxDefD f g) := fun Γ σ F H Q ev h => by
  refine x Γ σ F H _ ev (Res.wp_mono (Res.wp_bind h) (fun _ z => z) fun a _ k v F1 H1 e1 r1 => ?_)
  refine y Γ σ F1 H1 _ (ev.ext e1) (Res.wp_mono (Res.wp_bind k) (fun _ z => W.mono e1.sH z) fun b _ k2 u F2 H2 e2 r2 => ?_)
  have r1' := BRep.mono e2.sF e2.sH _ _ r1
  cases a with
  | lst ds =>
    cases b with
    | int d =>
      obtain ⟨o, q⟩ : ∃ o, asInts ds = o := ⟨_, rfl⟩
      change (match asInts ds with
        | some ns => Res.ok (D.int (maxN d ns))
        | none => .stuck).wp _ _ at k2
      rw [q] at k2
      cases o with
      | none => exact k2.elim
      | some ns =>
        obtain ⟨a, vs, rfl, ha, hv⟩ := r1'
        have hu : u = .int d := r2
        subst hu
        have e := asInts_r q hv
        subst e
        exact ⟨a, ns, d, rfl, rfl, .of ha, k2 _ F2 H2 (e1.trans e2) (rInt _)⟩
    | _ => exact k2.elim
  | _ => exact k2.elim
end
end FL

/-! FL14: a star in a display; a row that goes by one of two rules. -/
namespace FL
open PySem PySem.Spec PyProof.Rows L2
def tAlt (t u : TE) : TE := fun σ H Q => t σ H Q ∨ u σ H Q
theorem pe_alt {X : Cx} {e : Expr} {t u : TE} (a : PE X e t) (b : PE X e u) : PE X e (tAlt t u) :=
  ⟨fun pins s σ H Q I h => h.elim (fun h => a.run pins s σ H Q I h) fun h => b.run pins s σ H Q I h⟩
def eAlt (f g : EFn) : EFn := fun Γ => match f Γ with
  | .stuck => g Γ
  | r => r
def aStar (f : EFn) (fs : Slots → Res (List D)) : Slots → Res (List D) := fun Γ => (f Γ).bind fun d => match d with
  | .tup xs => (fs Γ).bind fun ds => .ok (xs ++ ds)
  | _ => .stuck
section
variable {K : PySem.W.Frag} {ce : CE} {W : Wish} {t u ta : TE} {tA : TA} {f g : EFn} {fs : Slots → Res (List D)}
theorem den_alt (x : DenV K ce W t f) (y : DenV K ce W u g) : DenV K ce W (tAlt t u) (eAlt f g) := fun Γ σ F H Q ev h => by
  cases e : f Γ with
  | stuck => exact .inr (y Γ σ F H Q ev (by simpa [eAlt, e] using h))
  | ok d => exact .inl (x Γ σ F H Q ev (by simpa [eAlt, e] using h))
  | exc q => exact .inl (x Γ σ F H Q ev (by simpa [eAlt, e] using h))
theorem den_star (x : DenV K ce W ta f) (y : DenAV K ce W tA fs) : DenAV K ce W (StX.tStar K ta tA) (aStar f fs) := fun Γ σ F H Q ev h => by
  refine x Γ σ F H _ ev (Res.wp_mono (Res.wp_bind h) (fun _ z => z) fun d _ k v F' H' e r => ?_)
  cases d with
  | tup xs =>
    obtain ⟨a, vs, rfl, ha, hr⟩ := r
    refine ⟨a, vs, rfl, .inl (.of (e.sub _ _ ha)), ?_⟩
    refine y Γ σ F' H' _ (ev.ext e) (Res.wp_mono (Res.wp_bind k) (fun _ z => W.mono e.sH z) fun ds _ k2 ws F2 H2 e2 r2 => ?_)
    exact k2 (vs ++ ws) F2 H2 (e.trans e2) ((Reps.mono e2.sF _ _ hr).app r2)
  | _ => exact k.elim
end
end FL

/-! FLE: enumerate over a tuple. -/
namespace FL
open PySem PySem.Spec PyProof.Rows L2
open Sem (wp)
open AutoSeq1 (wpAny_loadPart')
theorem meets_enumerate_newT (l : Addr) (items : Array Value) :
    Meets (Builtin.«enumerate.__new__» ⟨[.type "enumerate", .ref l], []⟩) (fun _ R s => s.heap.IsTuple l items ∧
      R (.ok (.ret (.ref (s.heap.push { cls := .type "tuple_iterator", data := .fields #[.ref l, .int 0 0] }).objs.size)))
        { s with heap := (s.heap.push { cls := .type "tuple_iterator", data := .fields #[.ref l, .int 0 0] }).push { cls := .type "enumerate", data := .fields #[.none, .bool false, .ref s.heap.objs.size, rawInt 0, .none, .none] } }) :=
  .of_wp fun prog w A R s h => by
    obtain ⟨hp, g, d, tk, os⟩ := s; obtain ⟨hl, h⟩ := h
    have hsub := sub_enumerate
    have q1 : ∀ {A' : Around} {E : Value → Shared → Prop} {Q : Value → Shared → Prop}, Q (.ref hp.objs.size) ⟨hp.push { cls := .type "tuple_iterator", data := .fields #[.ref l, .int 0 0] }, g, d, tk, os⟩ → wpAny (model prog w) A' (pyIter (.ref l)) Q E ⟨hp, g, d, tk, os⟩ :=
      fun q => (begins_tuple l items).iter prog w _ _ ⟨hp, g, d, tk, os⟩ _ hl q
    wp_walk using q1
    refine wpAny_stack_any fun st => wpAny_pure ?_
    split
    · rename_i c _ _ _ _ _
      cases (c == Value.type "enumerate")
      · wp_walk using q1
        exact ⟨_, rfl, h⟩
      · wp_walk using q1
        exact ⟨_, rfl, h⟩
    · wp_walk using q1
      exact ⟨_, rfl, h⟩
section
variable {prog : Program} {w : World} {A : Around} {E : Value → Shared → Prop} {s : Shared}
theorem call_enumerate_tuple {l : Addr} {items : Array Value} {Q : Value → Shared → Prop} (hL : s.heap.IsTuple l items)
    (h : ∀ h', IsEnum h' (s.heap.objs.size + 1) s.heap.objs.size 0 .none → h'.IsTupleIter s.heap.objs.size l 0 → h'.objs.size = s.heap.objs.size + 2 →
      (∀ b o, s.heap.get? b = some o → h'.get? b = some o) → Q (.ref (s.heap.objs.size + 1)) { s with heap := h' }) :
    wpAny (model prog w) A (call (.type "enumerate") [.ref l]) Q E s := by
  refine callType_new F.called_enumerate (by decide) (F.typeCall_enumerate_1 _) (F.newCall_enumerate_1 _) (fun obj => F.args_object_init_2 obj _) F.entry_enumerate_new
    (meets_enumerate_newT l items) ⟨hL, ?_⟩
  have hz : (s.heap.push { cls := .type "tuple_iterator", data := .fields #[.ref l, .int 0 0] }).objs.size = s.heap.objs.size + 1 := Heap.size_push ..
  show _ ∧ _
  rw [hz]
  have he : IsEnum ((s.heap.push { cls := .type "tuple_iterator", data := .fields #[.ref l, .int 0 0] }).push
      { cls := .type "enumerate", data := .fields #[.none, .bool false, .ref s.heap.objs.size, rawInt 0, .none, .none] }) (s.heap.objs.size + 1) s.heap.objs.size 0 .none := by
    have := Heap.get?_push_size (s.heap.push { cls := .type "tuple_iterator", data := .fields #[.ref l, .int 0 0] })
      (o := { cls := .type "enumerate", data := .fields #[.none, .bool false, .ref s.heap.objs.size, rawInt 0, .none, .none] }) rfl
    rw [hz] at this; exact this
  refine ⟨⟨_, he, rfl⟩, h _ he ⟨_, Heap.get?_push_of_some _ (Heap.get?_push_size _ rfl), rfl, rfl⟩ (by rw [Heap.size_push, hz]) fun b o x => Heap.get?_push_of_some _ (Heap.get?_push_of_some _ x)⟩
end
section
variable {prog : Program} {w : World} {A : Around} {E : Value → Shared → Prop} {s : Shared}
theorem pyNext_enumT_end {e it l : Addr} {i : Nat} {items : Array Value} {old : Value} {Q : Option Value → Shared → Prop} (hh : A.handled = none)
    (he : IsEnum s.heap e it i old) (hit : s.heap.IsTupleIter it l i) (hl : s.heap.IsTuple l items) (hx : items[i]? = none)
    (hQ : ∀ h', Heap.ExtBut it s.heap h' → Q none { s with heap := h' }) : wpAny (model prog w) A (pyNext (.ref e)) Q E s := by
  have hT : s.TypeIs (.ref e) "enumerate" := ⟨_, he, rfl⟩
  unfold pyNext
  refine wpAny_bind (wpAny_attempt (wpAny_callSpecial?_slot (name := Str.ofString "__next__") hT F.slot_enumerate_next
    (wpAny_call_entry F.slot_enumerate_next hT F.entry_enumerate_next ?_ (F.args_enumerate_next_1 _))))
  show wpAny _ _ (field (.ref e) 2 >>= _) _ _ _
  refine wpAny_bind (wpAny_field he rfl (x := .ref it) rfl ?_)
  refine wpAny_bind (wpAny_nextOf_tuple_end hh hit hl hx fun h' x he' hx' => ?_)
  obtain ⟨o, ho, hc⟩ := hx'
  refine wpAny_bind (wpAny_isInstance (T := "StopIteration") (b := true) ⟨o, ho, hc⟩ isSubtype_stop ?_)
  exact wpAny_pure (hQ _ he')
end
/-- the tuple at a, each item in a new pair -/
def IteT (K : PySem.W.Frag) (a : Addr) : It :=
  ⟨fun i H => ∃ (xs : List V) (x : V), SqT K H a xs ∧ xs[i]? = some x, fun i H v H' => ∃ T x, v = .ref T ∧ H T = none ∧ H' = upd H T (.tup [.int (i : Nat), x]) ∧ ∀ xs, SqT K H a xs → xs[i]? = some x, fun i H => ∃ xs : List V, SqT K H a xs ∧ xs.length ≤ i⟩
theorem turn_enumT {P : Program} {w : World} {K : PySem.W.Frag} {elts : List Expr} {kk : Nat} {tpos : Pos} (a e it : Addr) (hai : a ≠ it) (hae : a ≠ e) :
    Turn P w K (.Tuple elts kk tpos) (IteT K a) [e, it] e (fun i h => (∃ old, IsEnum h e it ((i : Nat) : Int) old) ∧ h.IsTupleIter it a i ∧ e ≠ it) where
  mem := by simp
  obj := fun i h st b hb => by
    obtain ⟨⟨old, he⟩, ⟨o, ho, hc, hd⟩, _⟩ := st
    have e' : b = e ∨ b = it := by simpa using hb
    rcases e' with z | z
    · rw [z]; exact ⟨_, he, fun v q => nomatch q⟩
    · rw [z]; exact ⟨o, ho, fun v q => by rw [hd] at q; cases q⟩
  keep := fun i h h' st k => let ⟨⟨old, he⟩, hi, hne⟩ := st; ⟨⟨old, k e (by simp) _ he⟩, hi.at fun o q => k it (by simp) o q, hne⟩
  item := by
    intro X hP hw hK hc i pins s σ H E I hf st hg
    subst hP hw hK
    obtain ⟨⟨old, he⟩, hit, hne⟩ := st
    obtain ⟨xs, x, hq, hx⟩ := hg
    obtain ⟨its, rv, p, hz⟩ := I.tuple hq
    obtain ⟨u, hu, ru⟩ := rv.get hx
    have p' : s.heap.IsTuple a its.toArray := p
    have hel : e < s.heap.objs.size := Heap.lt_size he
    have hil : it < s.heap.objs.size := by obtain ⟨_, q, _⟩ := hit; exact Heap.lt_size q
    have hil2 : i < its.toArray.size := by
      rw [List.size_toArray]
      exact (List.getElem?_eq_some_iff.mp hu).1
    refine wpAny_pyNext_enum_itemC (Draws.tuple (A := X.A.in1) (I.ok.hd hc) it a hai its.toArray) he ⟨hit, p'⟩ hil2 hne (fun z => by
      have : e = it ∨ e = a := by simpa using z
      rcases this with z | z
      · exact hne z
      · exact hae z.symm) fun y h' tk hP ho hit' hT hsz hk => ?_
    have hy : y = u := by
      have : its[i]? = some y := by simpa using hP
      rw [hu] at this
      exact (Option.some.inj this).symm
    subst hy
    refine ⟨_, rfl, wpAny_letOwnedTupleGo_enum (s := { s with heap := h', toks := tk + 1 }) ho fun h'' he' sb => ?_⟩
    have hT2 : h''.get? s.heap.objs.size = some { cls := .type "tuple", data := .seq #[.int i tk, y] } := (sb.2 _ (Nat.ne_of_gt hel)).trans hT
    have new : ObjOk X.prog X.w (upd H s.heap.objs.size (.tup [.int (i : Nat), x])) h'' s.heap.objs.size (.tup [.int (i : Nat), x]) :=
      ⟨by show 2 ≤ sizeLine; decide, [.int i tk, y], .cons ⟨_, rfl⟩ (.cons ru .nil), ⟨_, hT2, rfl, _, rfl⟩⟩
    have I1 : Inv X pins σ (upd H s.heap.objs.size (.tup [.int (i : Nat), x])) { s with heap := h'', toks := tk + 1 } :=
      I.turnedNew (ch := [e, it]) (fun b ob hb q => (sb.2 b (fun z => hb (by simp [z]))).trans (hk b ob (fun z => hb (by simp [z])) (fun z => hb (by simp [z])) q)) hf (Nat.le_refl _) new
    refine ⟨.ref s.heap.objs.size, _, I1, rfl, ⟨_, x, rfl, I.hok.fresh (Nat.le_refl _), rfl, fun ys hy => by rw [I.tuple_inj hy hq]; exact hx⟩, ⟨⟨y, ?_⟩, hit'.1.at fun o q => (sb.2 it (Ne.symm hne)).trans q, hne⟩, fun b hb => ?_⟩
    · have e1 : ((i + 1 : Nat) : Int) = (i : Int) + 1 := by omega
      rw [e1]; exact he'
    · have hb' : b < s.heap.objs.size := by
        have e' : b = e ∨ b = it := by simpa using hb
        rcases e' with z | z
        · rw [z]; exact hel
        · rw [z]; exact hil
      rw [upd_ne (Nat.ne_of_lt hb')]
      exact (hf b hb).1
  done := by
    intro X hP hw hK hc i pins s σ H E I hf st hg
    subst hP hw hK
    obtain ⟨⟨old, he⟩, hit, hne⟩ := st
    obtain ⟨xs, hq, hx⟩ := hg
    obtain ⟨its, rv, p, hz⟩ := I.tuple hq
    obtain ⟨f0, f1, f2, f3, f4, f5⟩ := hf it (by simp)
    have hl := rv.length
    have p' : s.heap.IsTuple a its.toArray := p
    exact pyNext_enumT_end (I.ok.hd hc) he hit p' (by simp; omega) fun h' eb => ⟨rfl, I.turned (t' := s.toks) (fun b o hb q => eb b o hb q) f0 f1 f3 f4 f5⟩
  self := fun A i s Q E st h => let ⟨⟨_, he⟩, _⟩ := st; wpAny_pyIter_enum he h
def iEnumT (K : PySem.W.Frag) (ta : TA) : TI := fun σ H R => ta σ H fun vs H1 => ∃ a xs, vs = [.ref a] ∧ SqT K H1 a xs ∧ R (IteT K a) H1
theorem pi_enumT {X : Cx} {e : Expr} {ta : TA} {p pos tpos : Pos} {elts : List Expr} {kk : Nat} (hg : Gl X "enumerate") (hm : X.mg "enumerate" = none) (ha : PA X [e] ta) (hs : starEach [e] X.env = [(false, eval e X.env)] := by rfl) :
    PI X (.Tuple elts kk tpos) (.Call (.Name "enumerate" p) [e] [] pos) (iEnumT X.K ta) := by
  refine ⟨fun pins s σ H R I h => ?_⟩
  refine Call_ (ld_blt I hg hm boot_enumerate (PyProof.Rows.callWith_type1 (thn (ha.run pos pins s σ H _ I h) fun us s1 ⟨vs, H1, I1, r1, q1⟩ => ?_) hs rfl))
  obtain ⟨a, xs, ex, hq, q⟩ := q1
  subst ex
  cases r1 with
  | cons r rr =>
    cases rr
    cases r
    obtain ⟨its, rv, p0, hz⟩ := I1.tuple hq
    have p' : s1.heap.IsTuple a its.toArray := p0
    have hal : a < s1.heap.objs.size := by obtain ⟨_, q, _⟩ := p'; exact Heap.lt_size q
    refine call_enumerate_tuple p' fun h' he hit hsz hk => wpAny_pyIter_enum he ?_
    have I2 : Inv X pins σ H1 { s1 with heap := h' } := I1.kept (t' := s1.toks) hk
    refine ⟨s1.heap.objs.size + 1, [s1.heap.objs.size + 1, s1.heap.objs.size], _, _, H1, rfl, I2, turn_enumT a (s1.heap.objs.size + 1) s1.heap.objs.size (Nat.ne_of_lt hal) (Nat.ne_of_lt (Nat.lt_succ_of_lt hal)), ⟨⟨.none, he⟩, hit, Nat.succ_ne_self _⟩, fun b hb => ?_, q⟩
    have e' : b = s1.heap.objs.size + 1 ∨ b = s1.heap.objs.size := by simpa using hb
    have hle : s1.heap.objs.size ≤ b := by
      rcases e' with z | z
      · rw [z]; exact Nat.le_add_right _ _
      · rw [z]; exact Nat.le_refl _
    exact I1.fpOk hle (I1.hok.fresh hle)
def asEnumT : List D → Res (List D)
  | [.tup ds] => .ok (enumL 0 ds)
  | _ => .stuck
section
variable {K : PySem.W.Frag} {ce : CE} {W : Wish} {F B : Hp} {tA : TA} {fs : Slots → Res (List D)}
theorem it_enumT {a : Addr} {vs : List V} {ds : List D} (ha : F a = some (.tup vs)) (r : Reps K ce F ds vs) : ItOk K ce (IteT K a) F B (enumL 0 ds) := fun F' H' s1 s2 _ => by
  have hA : SqT K H' a vs := .of (s2 _ _ (s1 _ _ ha))
  refine ⟨fun i d e => ?_, ⟨vs, hA, by rw [enumL_len, r.length]; exact Nat.le_refl _⟩⟩
  obtain ⟨e', he, rfl⟩ := enumL_get 0 ds i d e
  obtain ⟨v, h1, h2⟩ := r.get he
  refine ⟨⟨vs, v, hA, h1⟩, ?_⟩
  rintro x H'' ⟨T, y, rfl, hT, rfl, hx⟩
  have q := hx vs hA
  rw [h1] at q
  cases q
  refine ⟨_, .made s2 hT, ?_⟩
  unfold Rep
  refine ⟨T, _, rfl, upd_same, .cons ?_ (.cons (Rep.mono (s1.trans (sameUpd (s2.free hT))) _ _ h2) .nil)⟩
  rw [Nat.zero_add]; exact rInt _
theorem den_iEnT (x : DenAV K ce W tA fs) : DenI K ce W (iEnumT K tA) (iN asEnumT fs) := fun Γ σ F H R ev h => by
  refine x Γ σ F H _ ev (Res.wp_mono (Res.wp_bind h) (fun _ z => z) fun ds _ k vs F1 H1 e1 q1 => ?_)
  unfold asEnumT at k
  split at k
  · obtain ⟨v, rfl, h1⟩ := r1 q1
    unfold Rep at h1
    obtain ⟨a, vs, rfl, ha, hv⟩ := h1
    exact ⟨a, vs, rfl, .of (e1.sub _ _ ha), k _ F1 H1 e1 (it_enumT ha hv)⟩
  · exact k.elim
end
end FL

/-! FLZ: a loop over zip of two tuples with a NAME as its target: from the second turn on the last pair is still alive, so each turn makes a new pair. -/
namespace FL
open PySem PySem.Spec PyProof.Rows L2 RZ
open Sem (wp)
section
variable {prog : Program} {w : World} {A : Around} {E : Value → Shared → Prop} {s : Shared}
/-- a zip that holds a pair -/
abbrev IsZipF (h : Heap) (z TI TO : Addr) (f0 : Value) (fl : Bool) : Prop :=
  h.get? z = some { cls := .type "zip", dict := none, data := .fields #[f0, .bool fl, .bool false, .ref TI, .ref TO], slots := #[] }
theorem wpAny_loadIfAlive {a : Addr} {Q : Option Obj → Shared → Prop} (h : Q (s.heap.get? a) s) : wpAny (model prog w) A (loadIfAlive a) Q E s := fun Γ p _ => by
  unfold loadIfAlive
  rw [Sem.wp_loadIfAlive]
  simpa using h
theorem notFree {z TI TO T : Addr} {fl : Bool} {o : Obj} {Q : Bool → Shared → Prop} (hz : IsZipF s.heap z TI TO (rawInt T) fl) (hT : s.heap.get? T = some o)
    (h : ∀ h', IsZipF h' z TI TO (rawInt T) true → Heap.SameBut z s.heap h' → Q false { s with heap := h' }) : wpAny (model prog w) A (Builtin.SmallTypes.ownedTupleIsFree (.ref z)) Q E s := by
  unfold Builtin.SmallTypes.ownedTupleIsFree
  refine wpAny_bind (wpAny_field hz rfl (x := rawInt T) rfl ?_)
  show wpAny _ _ (loadIfAlive ((T : Int)).toNat >>= _) _ _ _
  rw [Int.toNat_natCast]
  refine wpAny_bind (wpAny_loadIfAlive ?_)
  rw [hT]
  show wpAny _ _ (field (.ref z) 1 >>= _) _ _ _
  refine wpAny_bind (wpAny_field hz rfl (x := .bool fl) rfl ?_)
  cases fl with
  | true => exact wpAny_pure (h s.heap hz ⟨rfl, fun _ _ => rfl⟩)
  | false => exact wpAny_bind (wpAny_setField_rec hz (by simp) fun h1 hz1 hs1 => wpAny_pure (h h1 hz1 hs1))
theorem zipT_next_fresh {z TI TO T i1 i2 l1 l2 : Addr} {fl : Bool} {oT : Obj} {k1 k2 : Nat} {xs ys : Array Value} {x y : Value} {Q : Value → Shared → Prop} (D : ZipApart z TI TO i1 i2 l1 l2)
    (hz : IsZipF s.heap z TI TO (rawInt T) fl) (hT : s.heap.get? T = some oT) (hTI : IsPair s.heap TI (.ref i1) (.ref i2))
    (h1 : s.heap.IsTupleIter i1 l1 k1) (h2 : s.heap.IsTupleIter i2 l2 k2) (hl1 : s.heap.IsTuple l1 xs) (hl2 : s.heap.IsTuple l2 ys) (hx : xs[k1]? = some x) (hy : ys[k2]? = some y)
    (hQ : ∀ h', IsZipF h' z TI TO (rawInt T) true → h'.IsTupleIter i1 l1 (k1 + 1) → h'.IsTupleIter i2 l2 (k2 + 1) → IsPair h' s.heap.objs.size x y → h'.objs.size = s.heap.objs.size + 1 →
      (∀ c o, c ≠ z → c ≠ i1 → c ≠ i2 → s.heap.get? c = some o → h'.get? c = some o) → Q (.ref s.heap.objs.size) { s with heap := h' }) :
    wpAny (model prog w) A (Builtin.«zip.__next__» ⟨[.ref z], []⟩) (fun fin s' => ∃ v, fin = .done (.ret v) ∧ Q v s') E s := by
  show wpAny _ _ (field (.ref z) 2 >>= _) _ _ _
  refine wpAny_bind (wpAny_field hz rfl (x := .bool false) rfl ?_)
  show wpAny _ _ (field (.ref z) 3 >>= _) _ _ _
  refine wpAny_bind (wpAny_field hz rfl (x := .ref TI) rfl ?_)
  refine wpAny_bind (wpAny_seqItems hTI rfl ?_)
  show wpAny _ _ (Builtin.SmallTypes.ownedTupleIsFree (.ref z) >>= _) _ _ _
  refine wpAny_bind (notFree hz hT fun h₁ hz₁ hs₁ => ?_)
  simp only [Bool.false_eq_true, if_false]
  refine wpAny_bind ?_
  rw [← Array.forIn_toList]
  simp only [List.forIn_cons, List.forIn_nil]
  refine wpAny_bind (wpAny_bind (wpAny_holding ?_))
  show wpAny _ _ (Builtin.SmallTypes.nextOf (.ref i1) >>= _) _ _ _
  refine wpAny_bind (nextOf_tuple_item (h1.extBut hs₁.extBut D.i1z) (hl1.extBut hs₁.extBut D.l1z) hx fun h₂ h1₂ hs₂ => wpAny_pure ?_)
  refine wpAny_pure ?_
  refine wpAny_bind (wpAny_bind (wpAny_holding ?_))
  show wpAny _ _ (Builtin.SmallTypes.nextOf (.ref i2) >>= _) _ _ _
  refine wpAny_bind (nextOf_tuple_item ((h2.extBut hs₁.extBut D.i2z).extBut hs₂.extBut D.i12.symm) ((hl2.extBut hs₁.extBut D.l2z).extBut hs₂.extBut D.l2i1) hy fun h₃ h2₃ hs₃ => wpAny_pure ?_)
  refine wpAny_pure (wpAny_pure ?_)
  refine wpAny_bind (wpAny_newTuple ?_ (by show 2 ≤ sizeLine; decide))
  have hsz : h₃.objs.size = s.heap.objs.size := by rw [hs₃.1, hs₂.1, hs₁.1]
  have hz₃ : IsZipF h₃ z TI TO (rawInt T) true := hs₃.extBut _ _ D.i2z.symm (hs₂.extBut _ _ D.i1z.symm hz₁)
  have hk₃ : ∀ c o, c ≠ z → c ≠ i1 → c ≠ i2 → s.heap.get? c = some o → h₃.get? c = some o := fun c o c1 c3 c4 e => hs₃.extBut _ _ c4 (hs₂.extBut _ _ c3 (hs₁.extBut _ _ c1 e))
  refine wpAny_pure ⟨_, rfl, ?_⟩
  show Q (.ref h₃.objs.size) _
  rw [hsz]
  have up : ∀ c o, h₃.get? c = some o → (h₃.push { cls := .type "tuple", data := .seq #[x, y] }).get? c = some o := fun c o e => Heap.get?_push_of_some _ e
  refine hQ _ (up _ _ hz₃) ((h1₂.extBut hs₃.extBut D.i12).at fun o e => up _ o e) (h2₃.at fun o e => up _ o e) (by rw [← hsz]; exact Heap.get?_push_size _ rfl) (by rw [Heap.size_push, hsz]) fun c o c1 c3 c4 e => up _ _ (hk₃ c o c1 c3 c4 e)
theorem zipT_end_fresh {z TI TO T i1 i2 l1 l2 : Addr} {fl : Bool} {oT : Obj} {k1 k2 : Nat} {xs ys : Array Value} {Q : PySem.Fin → Shared → Prop} (hh : A.handled = none) (D : ZipApart z TI TO i1 i2 l1 l2)
    (hz : IsZipF s.heap z TI TO (rawInt T) fl) (hT : s.heap.get? T = some oT) (hTI : IsPair s.heap TI (.ref i1) (.ref i2))
    (h1 : s.heap.IsTupleIter i1 l1 k1) (h2 : s.heap.IsTupleIter i2 l2 k2) (hl1 : s.heap.IsTuple l1 xs) (hl2 : s.heap.IsTuple l2 ys) (hend : xs[k1]? = none ∨ ys[k2]? = none)
    (hE : ∀ h' e, (∀ c o, c ≠ z → c ≠ i1 → c ≠ i2 → s.heap.get? c = some o → h'.get? c = some o) → (∃ o, h'.get? e = some o ∧ o.cls = .type "StopIteration") → E (.ref e) { s with heap := h' }) :
    wpAny (model prog w) A (Builtin.«zip.__next__» ⟨[.ref z], []⟩) Q E s := by
  show wpAny _ _ (field (.ref z) 2 >>= _) _ _ _
  refine wpAny_bind (wpAny_field hz rfl (x := .bool false) rfl ?_)
  show wpAny _ _ (field (.ref z) 3 >>= _) _ _ _
  refine wpAny_bind (wpAny_field hz rfl (x := .ref TI) rfl ?_)
  refine wpAny_bind (wpAny_seqItems hTI rfl ?_)
  show wpAny _ _ (Builtin.SmallTypes.ownedTupleIsFree (.ref z) >>= _) _ _ _
  refine wpAny_bind (notFree hz hT fun h₁ hz₁ hs₁ => ?_)
  simp only [Bool.false_eq_true, if_false]
  refine wpAny_bind ?_
  rw [← Array.forIn_toList]
  simp only [List.forIn_cons, List.forIn_nil]
  refine wpAny_bind (wpAny_bind (wpAny_holding ?_))
  show wpAny _ _ (Builtin.SmallTypes.nextOf (.ref i1) >>= _) _ _ _
  cases hx : xs[k1]? with
  | none =>
    exact wpAny_bind (nextOf_tuple_end hh (h1.extBut hs₁.extBut D.i1z) (hl1.extBut hs₁.extBut D.l1z) hx fun h₂ e hs₂ he => hE h₂ e (fun c o c1 c3 _ x => hs₂ _ _ c3 (hs₁.extBut _ _ c1 x)) he)
  | some x =>
    have hy : ys[k2]? = none := by rcases hend with h | h; rw [hx] at h; cases h; exact h
    refine wpAny_bind (nextOf_tuple_item (h1.extBut hs₁.extBut D.i1z) (hl1.extBut hs₁.extBut D.l1z) hx fun h₂ h1₂ hs₂ => wpAny_pure ?_)
    refine wpAny_pure ?_
    refine wpAny_bind (wpAny_bind (wpAny_holding ?_))
    show wpAny _ _ (Builtin.SmallTypes.nextOf (.ref i2) >>= _) _ _ _
    exact wpAny_bind (nextOf_tuple_end hh ((h2.extBut hs₁.extBut D.i2z).extBut hs₂.extBut D.i12.symm) ((hl2.extBut hs₁.extBut D.l2z).extBut hs₂.extBut D.l2i1) hy fun h₃ e hs₃ he => hE h₃ e (fun c o c1 c3 c4 x => hs₃ _ _ c4 (hs₂.extBut _ _ c3 (hs₁.extBut _ _ c1 x))) he)
/-- the pair held is gone, or there is none -/
abbrev FreeZ (h : Heap) (f0 : Value) : Prop := f0 = .none ∨ ∃ T : Addr, f0 = rawInt T ∧ h.get? T = none
theorem isFreeZ {z TI TO : Addr} {f0 : Value} {fl : Bool} {Q : Bool → Shared → Prop} (hz : IsZipF s.heap z TI TO f0 fl) (hf : FreeZ s.heap f0) (h : Q true s) :
    wpAny (model prog w) A (Builtin.SmallTypes.ownedTupleIsFree (.ref z)) Q E s := by
  unfold Builtin.SmallTypes.ownedTupleIsFree
  rcases hf with rfl | ⟨T, rfl, hT⟩
  · exact wpAny_bind (wpAny_field hz rfl (x := .none) rfl (wpAny_pure h))
  · refine wpAny_bind (wpAny_field hz rfl (x := rawInt T) rfl ?_)
    show wpAny _ _ (loadIfAlive ((T : Int)).toNat >>= _) _ _ _
    rw [Int.toNat_natCast]
    refine wpAny_bind (wpAny_loadIfAlive ?_)
    rw [hT]
    exact wpAny_pure h
/-- the parts of a zip of two tuples -/
structure ZipIn (h : Heap) (z TI TO i1 i2 l1 l2 : Addr) (f0 : Value) (fl : Bool) (k1 k2 : Nat) (xs ys : Array Value) : Prop where
  z : IsZipF h z TI TO f0 fl
  ti : IsPair h TI (.ref i1) (.ref i2)
  to : ∃ a b, IsPair h TO a b
  n1 : h.IsTupleIter i1 l1 k1
  n2 : h.IsTupleIter i2 l2 k2
  t1 : h.IsTuple l1 xs
  t2 : h.IsTuple l2 ys
/-- both ways in which the first items are taken -/
theorem reuse_first {z TI TO i1 i2 l1 l2 : Addr} {f0 : Value} {fl : Bool} {k1 k2 : Nat} {xs ys : Array Value} {Q : PySem.Fin → Shared → Prop} (D : ZipApart z TI TO i1 i2 l1 l2) (Z : ZipIn s.heap z TI TO i1 i2 l1 l2 f0 fl k1 k2 xs ys) (hf : FreeZ s.heap f0)
    (hend : (xs[k1]? = none ∨ ys[k2]? = none) → A.handled = none ∧ ∀ h' e, (∀ c o, c ≠ z → c ≠ TO → c ≠ i1 → c ≠ i2 → s.heap.get? c = some o → h'.get? c = some o) → (∃ o, h'.get? e = some o ∧ o.cls = .type "StopIteration") → E (.ref e) { s with heap := h' })
    (hgo : ∀ x y, xs[k1]? = some x → ys[k2]? = some y → ∀ h', IsZipF h' z TI TO (rawInt s.heap.objs.size) false → IsPair h' TO x y → h'.IsTupleIter i1 l1 (k1 + 1) → h'.IsTupleIter i2 l2 (k2 + 1) → IsPair h' s.heap.objs.size x y → h'.objs.size = s.heap.objs.size + 1 →
      (∀ c o, c ≠ z → c ≠ TO → c ≠ i1 → c ≠ i2 → s.heap.get? c = some o → h'.get? c = some o) → Q (.done (.ret (.ref s.heap.objs.size))) { s with heap := h' }) :
    wpAny (model prog w) A (Builtin.«zip.__next__» ⟨[.ref z], []⟩) Q E s := by
  obtain ⟨hz, hTI, ⟨a, b, hTO⟩, h1, h2, hl1, hl2⟩ := Z
  show wpAny _ _ (field (.ref z) 2 >>= _) _ _ _
  refine wpAny_bind (wpAny_field hz rfl (x := .bool false) rfl ?_)
  show wpAny _ _ (field (.ref z) 3 >>= _) _ _ _
  refine wpAny_bind (wpAny_field hz rfl (x := .ref TI) rfl ?_)
  refine wpAny_bind (wpAny_seqItems hTI rfl ?_)
  show wpAny _ _ (Builtin.SmallTypes.ownedTupleIsFree (.ref z) >>= _) _ _ _
  refine wpAny_bind (isFreeZ hz hf ?_)
  simp only [if_true]
  refine wpAny_bind (wpAny_rule ?_)
  refine wpAny_bind (wpAny_field hz rfl (x := .ref TO) rfl ?_)
  refine wpAny_bind (wpAny_setField_rec hz (by simp) fun g1 z1 u1 => ?_)
  replace z1 : IsZipF g1 z TI TO .ellipsis fl := z1
  have k1k := u1.extBut
  refine wpAny_bind ?_
  simp only [List.zipIdx_cons, List.zipIdx_nil, List.forIn_cons, List.forIn_nil]
  refine wpAny_bind (wpAny_bind (wpAny_onRaise ?_))
  show wpAny _ _ (Builtin.SmallTypes.nextOf (.ref i1) >>= _) _ _ _
  have a1 := h1.extBut k1k D.i1z
  have b1 := hl1.extBut k1k D.l1z
  have a2 := h2.extBut k1k D.i2z
  have b2 := hl2.extBut k1k D.l2z
  have c1 : IsPair g1 TO a b := k1k _ _ D.TOz hTO
  cases hx : xs[k1]? with
  | none =>
    obtain ⟨hh, hE⟩ := hend (.inl hx)
    refine wpAny_bind (nextOf_tuple_end hh a1 b1 hx fun g2 e u2 he => ?_)
    obtain ⟨oe, hoe, hce⟩ := he
    have z2 : IsZipF g2 z TI TO .ellipsis fl := u2 _ _ D.i1z.symm z1
    have hez : e ≠ z := fun q => by rw [q, z2] at hoe; cases hoe; simp at hce
    exact wpAny_setField_rec z2 (by simp) fun g3 _ u3 => hE g3 e (fun c o n1 _ n3 _ q => u3.extBut _ _ n1 (u2 _ _ n3 (k1k _ _ n1 q))) ⟨oe, u3.extBut _ _ hez hoe, hce⟩
  | some x =>
    refine wpAny_bind (nextOf_tuple_item a1 b1 hx fun g2 d1 u2 => wpAny_pure ?_)
    have k2k := u2.extBut
    have c2 : IsPair g2 TO a b := k2k _ _ D.TOi1 c1
    refine wpAny_bind (wpAny_seqItems c2 rfl ?_)
    refine wpAny_bind (wpAny_updateSeq_pair c2 fun g3 c3 u3 => ?_)
    replace c3 : IsPair g3 TO x b := c3
    have k3k := u3.extBut
    refine wpAny_bind (wpAny_letGo (wpAny_pure ?_))
    refine wpAny_bind (wpAny_bind (wpAny_onRaise ?_))
    show wpAny _ _ (Builtin.SmallTypes.nextOf (.ref i2) >>= _) _ _ _
    have a3 := (a2.extBut k2k D.i12.symm).extBut k3k D.TOi2.symm
    have b3 := (b2.extBut k2k D.l2i1).extBut k3k D.l2TO
    have z3 : IsZipF g3 z TI TO .ellipsis fl := k3k _ _ D.TOz.symm (k2k _ _ D.i1z.symm z1)
    have w3 : ∀ c o, c ≠ z → c ≠ TO → c ≠ i1 → s.heap.get? c = some o → g3.get? c = some o := fun c o n1 n2 n3 q => k3k _ _ n2 (k2k _ _ n3 (k1k _ _ n1 q))
    cases hy : ys[k2]? with
    | none =>
      obtain ⟨hh, hE⟩ := hend (.inr hy)
      refine wpAny_bind (nextOf_tuple_end hh a3 b3 hy fun g4 e u4 he => ?_)
      obtain ⟨oe, hoe, hce⟩ := he
      have z4 : IsZipF g4 z TI TO .ellipsis fl := u4 _ _ D.i2z.symm z3
      have hez : e ≠ z := fun q => by rw [q, z4] at hoe; cases hoe; simp at hce
      exact wpAny_setField_rec z4 (by simp) fun g5 _ u5 => hE g5 e (fun c o n1 n2 n3 n4 q => u5.extBut _ _ n1 (u4 _ _ n4 (w3 _ _ n1 n2 n3 q))) ⟨oe, u5.extBut _ _ hez hoe, hce⟩
    | some y =>
      refine wpAny_bind (nextOf_tuple_item a3 b3 hy fun g4 d2 u4 => wpAny_pure ?_)
      have k4k := u4.extBut
      have c4 : IsPair g4 TO x b := k4k _ _ D.TOi2 c3
      refine wpAny_bind (wpAny_seqItems c4 rfl ?_)
      refine wpAny_bind (wpAny_updateSeq_pair c4 fun g5 c5 u5 => ?_)
      replace c5 : IsPair g5 TO x y := c5
      have k5k := u5.extBut
      refine wpAny_bind (wpAny_letGo (wpAny_pure (wpAny_pure ?_)))
      refine wpAny_bind (wpAny_seqItems c5 rfl ?_)
      refine wpAny_bind (wpAny_newTuple ?_)
      have sz : g5.objs.size = s.heap.objs.size := by rw [u5.1, u4.1, u3.1, u2.1, u1.1]
      have z5 : IsZipF g5 z TI TO .ellipsis fl := k5k _ _ D.TOz.symm (k4k _ _ D.i2z.symm z3)
      have w5 : ∀ c o, c ≠ z → c ≠ TO → c ≠ i1 → c ≠ i2 → s.heap.get? c = some o → g5.get? c = some o := fun c o n1 n2 n3 n4 q => k5k _ _ n2 (k4k _ _ n4 (w3 _ _ n1 n2 n3 q))
      have e1 : g5.IsTupleIter i1 l1 (k1 + 1) := ((d1.extBut k3k D.TOi1.symm).extBut k4k D.i12).extBut k5k D.TOi1.symm
      have e2 : g5.IsTupleIter i2 l2 (k2 + 1) := d2.extBut k5k D.TOi2.symm
      have zlt : z < g5.objs.size := Heap.lt_size z5
      show wpAny _ _ (Builtin.SmallTypes.ownedTupleHandOut (.ref z) (.ref g5.objs.size) >>= _) _ _ _
      refine wpAny_bind ?_
      unfold Builtin.SmallTypes.ownedTupleHandOut
      have z6 : IsZipF (g5.push { cls := .type "tuple", data := .seq #[x, y] }) z TI TO .ellipsis fl := Heap.get?_push_of_some _ z5
      refine wpAny_bind (wpAny_setField_rec z6 (by simp) fun g7 z7 u7 => ?_)
      replace z7 : IsZipF g7 z TI TO (rawInt g5.objs.size) fl := z7
      refine wpAny_setField_rec z7 (by simp) fun g8 z8 u8 => ?_
      replace z8 : IsZipF g8 z TI TO (rawInt g5.objs.size) false := z8
      have up : ∀ c o, c ≠ z → g5.get? c = some o → g8.get? c = some o := fun c o n1 q => u8.extBut _ _ n1 (u7.extBut _ _ n1 (Heap.get?_push_of_some _ q))
      have t8 : IsPair g8 g5.objs.size x y := u8.extBut _ _ (Nat.ne_of_gt zlt) (u7.extBut _ _ (Nat.ne_of_gt zlt) (Heap.get?_push_size _ rfl))
      have s8 : g8.objs.size = g5.objs.size + 1 := by rw [u8.1, u7.1, Heap.size_push]
      rw [sz] at z8 t8 s8
      refine wpAny_pure ?_
      show Q (.done (.ret (.ref g5.objs.size))) _
      rw [sz]
      exact hgo x y hx hy g8 z8 (up _ _ D.TOz c5) (e1.at fun o q => up _ o D.i1z q) (e2.at fun o q => up _ o D.i2z q) t8 s8 fun c o n1 n2 n3 n4 q => up c o n1 (w5 c o n1 n2 n3 n4 q)
/-- one turn: a new pair, whether the last one is alive or not -/
theorem pyNext_zipN {z TI TO i1 i2 l1 l2 : Addr} {f0 : Value} {fl : Bool} {k1 k2 : Nat} {xs ys : Array Value} {Q : Option Value → Shared → Prop} (D : ZipApart z TI TO i1 i2 l1 l2) (Z : ZipIn s.heap z TI TO i1 i2 l1 l2 f0 fl k1 k2 xs ys) (hf : f0 = .none ∨ ∃ T : Addr, f0 = rawInt T)
    (hend : (xs[k1]? = none ∨ ys[k2]? = none) → A.handled = none ∧ ∀ h', (∀ c o, c ≠ z → c ≠ TO → c ≠ i1 → c ≠ i2 → s.heap.get? c = some o → h'.get? c = some o) → Q none { s with heap := h' })
    (hgo : ∀ x y, xs[k1]? = some x → ys[k2]? = some y → ∀ h' T' fl', IsZipF h' z TI TO (rawInt (T' : Addr)) fl' → (∃ a b, IsPair h' TO a b) → h'.IsTupleIter i1 l1 (k1 + 1) → h'.IsTupleIter i2 l2 (k2 + 1) → IsPair h' s.heap.objs.size x y → h'.objs.size = s.heap.objs.size + 1 →
      (∀ c o, c ≠ z → c ≠ TO → c ≠ i1 → c ≠ i2 → s.heap.get? c = some o → h'.get? c = some o) → Q (some (.ref s.heap.objs.size)) { s with heap := h' }) :
    wpAny (model prog w) A (pyNext (.ref z)) Q E s := by
  have hT : s.TypeIs (.ref z) "zip" := ⟨_, Z.z, rfl⟩
  unfold pyNext
  refine wpAny_bind (wpAny_attempt (wpAny_callSpecial?_slot (name := Str.ofString "__next__") hT F.slot_zip_next (wpAny_call_entry F.slot_zip_next hT F.entry_zip_next ?_ (F.args_zip_next_1 _))))
  by_cases hfz : FreeZ s.heap f0
  · refine reuse_first D Z hfz (fun q => ?_) fun x y hx hy h' z' t' n1 n2 p' sz k => ⟨_, rfl, wpAny_pure (hgo x y hx hy h' _ _ z' ⟨x, y, t'⟩ n1 n2 p' sz k)⟩
    obtain ⟨hh, hE⟩ := hend q
    refine ⟨hh, fun h' e k ⟨o, ho, hc⟩ => ?_⟩
    refine wpAny_bind (wpAny_isInstance (T := "StopIteration") (b := true) ⟨o, ho, hc⟩ isSubtype_stop ?_)
    exact wpAny_pure (hE h' k)
  · obtain ⟨T, hT0, o, ho⟩ : ∃ T : Addr, f0 = rawInt T ∧ ∃ o, s.heap.get? T = some o := by
      rcases hf with rfl | ⟨T, rfl⟩
      · exact (hfz (.inl rfl)).elim
      · cases q : s.heap.get? T with
        | none => exact (hfz (.inr ⟨T, rfl, q⟩)).elim
        | some o => exact ⟨T, rfl, o, q⟩
    subst hT0
    cases hx : xs[k1]? with
    | none =>
      obtain ⟨hh, hE⟩ := hend (.inl hx)
      refine zipT_end_fresh hh D Z.z ho Z.ti Z.n1 Z.n2 Z.t1 Z.t2 (.inl hx) fun h' e k ⟨o, ho, hc⟩ => ?_
      refine wpAny_bind (wpAny_isInstance (T := "StopIteration") (b := true) ⟨o, ho, hc⟩ isSubtype_stop ?_)
      exact wpAny_pure (hE h' fun c o n1 _ n3 n4 q => k c o n1 n3 n4 q)
    | some x =>
      cases hy : ys[k2]? with
      | none =>
        obtain ⟨hh, hE⟩ := hend (.inr hy)
        refine zipT_end_fresh hh D Z.z ho Z.ti Z.n1 Z.n2 Z.t1 Z.t2 (.inr hy) fun h' e k ⟨o, ho, hc⟩ => ?_
        refine wpAny_bind (wpAny_isInstance (T := "StopIteration") (b := true) ⟨o, ho, hc⟩ isSubtype_stop ?_)
        exact wpAny_pure (hE h' fun c o n1 _ n3 n4 q => k c o n1 n3 n4 q)
      | some y =>
        obtain ⟨a, b, hTO⟩ := Z.to
        exact zipT_next_fresh D Z.z ho Z.ti Z.n1 Z.n2 Z.t1 Z.t2 hx hy fun h' z' n1 n2 p' sz k => wpAny_pure (hgo x y hx hy h' _ _ z' ⟨a, b, k _ _ D.TOz D.TOi1 D.TOi2 hTO⟩ n1 n2 p' sz fun c o m1 _ m3 m4 q => k c o m1 m3 m4 q)
end
section
/-- each turn of a zip of two tuples whose target is a name -/
theorem turn_zipN {P : Program} {w : World} {K : PySem.W.Frag} {x0 : Str} {tpos : Pos} {a b z TI TO i1 i2 : Addr} (D : ZipApart z TI TO i1 i2 a b) :
    Turn P w K (.Name x0 tpos) (ItzT K a b) [z, TI, TO, i1, i2] z (fun i h => (∃ f0 fl, (f0 = .none ∨ ∃ T : Addr, f0 = rawInt T) ∧ IsZipF h z TI TO f0 fl) ∧ IsPair h TI (.ref i1) (.ref i2) ∧ (∃ x y, IsPair h TO x y) ∧ h.IsTupleIter i1 a i ∧ h.IsTupleIter i2 b i) where
  mem := by simp
  obj := fun i h ⟨⟨f0, fl, _, hz⟩, hTI, ⟨x, y, hTO⟩, ⟨o1, e1, _, d1⟩, ⟨o2, e2, _, d2⟩⟩ c hc => by
    simp only [List.mem_cons, List.not_mem_nil, or_false] at hc
    rcases hc with q | q | q | q | q <;> rw [q]
    · exact ⟨_, hz, fun v q => nomatch q⟩
    · exact ⟨_, hTI, fun v q => nomatch q⟩
    · exact ⟨_, hTO, fun v q => nomatch q⟩
    · exact ⟨o1, e1, fun v q => by rw [d1] at q; cases q⟩
    · exact ⟨o2, e2, fun v q => by rw [d2] at q; cases q⟩
  keep := fun i h h' ⟨⟨f0, fl, hf, hz⟩, hTI, ⟨x, y, hTO⟩, h1, h2⟩ k =>
    ⟨⟨f0, fl, hf, k z (by simp) _ hz⟩, k TI (by simp) _ hTI, ⟨x, y, k TO (by simp) _ hTO⟩, h1.at fun o q => k i1 (by simp) o q, h2.at fun o q => k i2 (by simp) o q⟩
  item := by
    intro X hP hw hK hc i pins s σ H E I hf st hg
    subst hP hw hK
    obtain ⟨⟨f0, fl, hf0, hz⟩, hTI, hTO, h1, h2⟩ := st
    obtain ⟨xs, ys, x, y, hqx, hqy, hx, hy⟩ := hg
    obtain ⟨its, rv, p, _⟩ := I.tuple hqx
    obtain ⟨its2, rv2, p2, _⟩ := I.tuple hqy
    obtain ⟨u, hu, ru⟩ := rv.get hx
    obtain ⟨u2, hu2, ru2⟩ := rv2.get hy
    have hu' : its.toArray[i]? = some u := by simpa using hu
    have hu2' : its2.toArray[i]? = some u2 := by simpa using hu2
    have lt : ∀ c ∈ [z, TI, TO, i1, i2], c < s.heap.objs.size := fun c hcm => by
      simp only [List.mem_cons, List.not_mem_nil, or_false] at hcm
      rcases hcm with q | q | q | q | q <;> rw [q]
      · exact Heap.lt_size hz
      · exact Heap.lt_size hTI
      · obtain ⟨_, _, hTO⟩ := hTO; exact Heap.lt_size hTO
      · obtain ⟨_, e1, _⟩ := h1; exact Heap.lt_size e1
      · obtain ⟨_, e2, _⟩ := h2; exact Heap.lt_size e2
    refine pyNext_zipN D ⟨hz, hTI, hTO, h1, h2, p, p2⟩ hf0 (fun q => ?_) fun x' y' hx' hy' h' T' fl' z' TO' n1 n2 hT hsz hk => ?_
    · rcases q with q | q
      · rw [hu'] at q; cases q
      · rw [hu2'] at q; cases q
    · rw [hu'] at hx'
      rw [hu2'] at hy'
      cases hx'
      cases hy'
      refine ⟨_, rfl, wpAny_pure ?_⟩
      have new : ObjOk X.prog X.w (upd H s.heap.objs.size (.tup [x, y])) h' s.heap.objs.size (.tup [x, y]) := ⟨by show 2 ≤ sizeLine; decide, [u, u2], .cons ru (.cons ru2 .nil), ⟨_, hT, rfl, _, rfl⟩⟩
      have I1 : Inv X pins σ (upd H s.heap.objs.size (.tup [x, y])) { s with heap := h' } :=
        I.turnedNew (t' := s.toks) (ch := [z, TI, TO, i1, i2]) (fun c o hb q => hk c o (fun e => hb (by simp [e])) (fun e => hb (by simp [e])) (fun e => hb (by simp [e])) (fun e => hb (by simp [e])) q) hf (Nat.le_refl _) new
      refine ⟨.ref s.heap.objs.size, _, I1, rfl, ⟨_, x, y, rfl, I.hok.fresh (Nat.le_refl _), rfl, fun l hl => by rw [I.tuple_inj hl hqx]; exact hx, fun l hl => by rw [I.tuple_inj hl hqy]; exact hy⟩, ⟨⟨_, fl', .inr ⟨T', rfl⟩, z'⟩, hk _ _ D.TIz D.TITO D.TIi1 D.TIi2 hTI, TO', n1, n2⟩, fun c hcm => ?_⟩
      rw [upd_ne (Nat.ne_of_lt (lt c hcm))]
      exact (hf c hcm).1
  done := by
    intro X hP hw hK hc i pins s σ H E I hf st hg
    subst hP hw hK
    obtain ⟨⟨f0, fl, hf0, hz⟩, hTI, hTO, h1, h2⟩ := st
    obtain ⟨xs, ys, hqx, hqy, hend⟩ := hg
    obtain ⟨its, rv, p, _⟩ := I.tuple hqx
    obtain ⟨its2, rv2, p2, _⟩ := I.tuple hqy
    have l1 := rv.length
    have l2 := rv2.length
    refine pyNext_zipN D ⟨hz, hTI, hTO, h1, h2, p, p2⟩ hf0 (fun _ => ⟨I.ok.hd hc, fun h' hk => ⟨rfl, I.turnedL (t' := s.toks) (ch := [z, TI, TO, i1, i2]) (fun c o hb q =>
      hk c o (fun e => hb (by simp [e])) (fun e => hb (by simp [e])) (fun e => hb (by simp [e])) (fun e => hb (by simp [e])) q) hf⟩⟩) fun x' y' hx' hy' => ?_
    have b1 := (Array.getElem?_eq_some_iff.mp hx').1
    have b2 := (Array.getElem?_eq_some_iff.mp hy').1
    rw [List.size_toArray] at b1 b2
    rcases hend with q | q <;> omega
  self := fun A i s Q E st h => by
    obtain ⟨⟨f0, fl, _, hz⟩, _⟩ := st
    have hT : s.TypeIs (.ref z) "zip" := ⟨_, hz, rfl⟩
    refine wpAny_pyIter_slot hT F.slot_zip_iter (wpAny_call_entry F.slot_zip_iter hT F.entry_zip_iter (?_ : wpAny _ _ (ret (.ref z)) _ _ s) (F.args_zip_iter_1 _))
    exact wpAny_pure ⟨_, rfl, "zip", _, hT, F.slot_zip_next.lookup, h⟩
end
def iZipN (K : PySem.W.Frag) (ta : TA) : TI := fun σ H R => ta σ H fun vs H1 => ∃ a b xs ys, vs = [.ref a, .ref b] ∧ SqT K H1 a xs ∧ SqT K H1 b ys ∧ R (ItzT K a b) H1
theorem pi_zipN {X : Cx} {x0 : Str} {e e2 : Expr} {ta : TA} {p pos tpos : Pos} (hg : Gl X "zip") (hm : X.mg "zip" = none) (ha : PA X [e, e2] ta)
    (hs : starEach [e, e2] X.env = (false, eval e X.env) :: starEach [e2] X.env := by rfl) (hpl : (backTo pos (starEach [e2] X.env)).any (·.1) = false := by rfl) :
    PI X (.Name x0 tpos) (.Call (.Name "zip" p) [e, e2] [] pos) (iZipN X.K ta) := by
  refine ⟨fun pins s σ H R I h => ?_⟩
  refine Call_ (ld_blt I hg hm PyProof.Rows.boot_zip (PyProof.Rows.callWith_type1 (thn (ha.run pos pins s σ H _ I h) fun us s1 ⟨vs, H1, I1, rr, a, b, xs, ys, ev, qx, qy, q⟩ => ?_) hs hpl))
  subst ev
  cases rr with
  | cons ra rr =>
    cases rr with
    | cons rb rr =>
      cases rr
      cases ra
      cases rb
      obtain ⟨its, rv, p1, _⟩ := I1.tuple qx
      obtain ⟨its2, rv2, p2, _⟩ := I1.tuple qy
      have t1 : s1.heap.IsTuple a its.toArray := p1
      have t2 : s1.heap.IsTuple b its2.toArray := p2
      have la : a < s1.heap.objs.size := by obtain ⟨_, g, _⟩ := t1; exact Heap.lt_size g
      have lb : b < s1.heap.objs.size := by obtain ⟨_, g, _⟩ := t2; exact Heap.lt_size g
      refine call_zipT t1 t2 fun h' hz hTI hTO h1 h2 hsz hk => wpAny_pyIter_zip hz ?_
      have I2 : Inv X pins σ H1 { s1 with heap := h' } := I1.kept (t' := s1.toks) hk
      have tn : (∃ f0 fl, (f0 = Value.none ∨ ∃ T : Addr, f0 = rawInt T) ∧ IsZipF h' (s1.heap.objs.size + 4) (s1.heap.objs.size + 2) (s1.heap.objs.size + 3) f0 fl) := ⟨.none, false, .inl rfl, hz⟩
      refine ⟨s1.heap.objs.size + 4, [s1.heap.objs.size + 4, s1.heap.objs.size + 2, s1.heap.objs.size + 3, s1.heap.objs.size, s1.heap.objs.size + 1], _, _, H1, rfl, I2, turn_zipN (PySem.W.ktu_apart s1.heap.objs.size a b la lb), ⟨tn, hTI, ⟨_, _, hTO⟩, h1, h2⟩, fun c hc => ?_, q⟩
      have hle : s1.heap.objs.size ≤ c := by
        simp only [List.mem_cons, List.not_mem_nil, or_false] at hc
        rcases hc with z | z | z | z | z <;> rw [z]
        · exact Nat.le_add_right _ _
        · exact Nat.le_add_right _ _
        · exact Nat.le_add_right _ _
        · exact Nat.le_refl _
        · exact Nat.le_add_right _ _
      exact I1.fpOk hle (I1.hok.fresh hle)
def asZipT : List D → Res (List D)
  | [.tup ds, .tup es] => .ok (zipL ds es)
  | _ => .stuck
theorem den_iZN {K : PySem.W.Frag} {ce : CE} {W : Wish} {tA : TA} {fs : Slots → Res (List D)} (x : DenAV K ce W tA fs) : DenI K ce W (iZipN K tA) (iN asZipT fs) := fun Γ σ F H R ev h => by
  refine x Γ σ F H _ ev (Res.wp_mono (Res.wp_bind h) (fun _ z => z) fun ds _ k vs F1 H1 e1 q1 => ?_)
  unfold asZipT at k
  split at k
  · obtain ⟨v, w, rfl, h1, h2⟩ := r2 q1
    unfold Rep at h1 h2
    obtain ⟨a, vs, rfl, ha, hv⟩ := h1
    obtain ⟨b, ws, rfl, hb, hw⟩ := h2
    exact ⟨a, b, vs, ws, rfl, .of (e1.sub _ _ ha), .of (e1.sub _ _ hb), k _ F1 H1 e1 (it_zipT ha hv hb hw)⟩
  · exact k.elim
end FL

/-! FLQ: plain laws of what FL9 to FL11 add; loops told by their state. -/
namespace FL
open PySem L2

@[simp] theorem x_wipe (is : List Nat) (g : SFn) (Γ : Slots) : sWipe is g Γ = wipeO is (g Γ) := id rfl
@[simp] theorem wipeO_nx (is : List Nat) (Γ : Slots) : wipeO is (.nx Γ) = .nx (wipeG Γ is) := id rfl
@[simp] theorem wipeO_bk (is : List Nat) (Γ : Slots) : wipeO is (.bk Γ) = .bk (wipeG Γ is) := id rfl
@[simp] theorem wipeO_ct (is : List Nat) (Γ : Slots) : wipeO is (.ct Γ) = .ct (wipeG Γ is) := id rfl
@[simp] theorem wipeO_rt (is : List Nat) (d : D) : wipeO is (.rt d) = .rt d := id rfl
@[simp] theorem wipeO_ro (is : List Nat) (d : D) : wipeO is (.ro d) = .ro d := id rfl
@[simp] theorem wipeO_exc (is : List Nat) (e : Exn) : wipeO is (.exc e) = .exc e := id rfl
@[simp] theorem wipeO_stuck (is : List Nat) : wipeO is .stuck = .stuck := id rfl
@[simp] theorem wipeG_nil (Γ : Slots) : wipeG Γ [] = Γ := id rfl
@[simp] theorem wipeG_cons (Γ : Slots) (v : Nat) (vs : List Nat) : wipeG Γ (v :: vs) = (wipeG Γ vs).set v .no := id rfl
@[simp] theorem x_eAlt (f g : EFn) (Γ : Slots) : eAlt f g Γ = match f Γ with
  | .stuck => g Γ
  | r => r := id rfl
@[simp] theorem x_aStar (f : EFn) (fs : Slots → Res (List D)) (Γ : Slots) : aStar f fs Γ = (f Γ).bind fun d => match d with
  | .tup xs => (fs Γ).bind fun ds => .ok (xs ++ ds)
  | _ => .stuck := id rfl
@[simp] theorem x_asZipT (ds es : List D) : asZipT [.tup ds, .tup es] = .ok (zipL ds es) := id rfl
@[simp] theorem x_asEnumT (ds : List D) : asEnumT [.tup ds] = .ok (enumL 0 ds) := id rfl
@[simp] theorem x_raise (c : Nat) (Γ : Slots) : sRaise c Γ = .exc ⟨c, none⟩ := id rfl
@[simp] theorem seqO_exc (e : Exn) (h : SFn) : seqO (.exc e) h = .exc e := id rfl
@[simp] theorem thenR_exc {α : Type} (e : Exn) (k : α → Out) : thenR (.exc e : Res α) k = .exc e := id rfl
@[simp] theorem x_tryAs (i : Nat) (ct : Nat → Bool) (g : Slots → Res (Option D)) (su : Nat → SFn) (Γ : Slots) : sTryAs i ct g su Γ = match g Γ with
  | .ok none => .nx Γ
  | .ok (some d) => .rt d
  | .exc e => if ct e.c = true ∧ i < Γ.length then unset i (su e.c (Γ.set i .no)) else .stuck
  | .stuck => .stuck := id rfl
@[simp] theorem x_try (ct : Nat → Bool) (g : Slots → Res (Option D)) (su : SFn) (Γ : Slots) : sTry ct g su Γ = match g Γ with
  | .ok none => .nx Γ
  | .ok (some d) => .rt d
  | .exc e => if ct e.c = true then su Γ else .stuck
  | .stuck => .stuck := id rfl
@[simp] theorem unset_rt (i : Nat) (d : D) : unset i (.rt d) = .rt d := id rfl
@[simp] theorem unset_nx (i : Nat) (Γ : Slots) : unset i (.nx Γ) = .nx (Γ.set i .no) := id rfl
@[simp] theorem x_qExpr (f : EFn) (Γ : Slots) : qExpr f Γ = (f Γ).bind fun _ => .ok none := id rfl
@[simp] theorem x_qRet (f : EFn) (Γ : Slots) : qRet f Γ = (f Γ).bind fun d => .ok (some d) := id rfl
@[simp] theorem x_qNx (Γ : Slots) : qNx Γ = .ok none := id rfl
@[simp] theorem x_qIf (c : Slots → Res Bool) (g h : Slots → Res (Option D)) (Γ : Slots) : qIf c g h Γ = match c Γ with
  | .ok true => g Γ
  | .ok false => h Γ
  | _ => .stuck := id rfl
@[simp] theorem x_qSeq (g h : Slots → Res (Option D)) (Γ : Slots) : qSeq g h Γ = (g Γ).bind fun o => match o with
  | none => h Γ
  | some d => .ok (some d) := id rfl
@[simp] theorem x_eQ (M : List D → Res D) (fs : Slots → Res (List D)) (Γ : Slots) : eQ M fs Γ = match fs Γ with
  | .ok ds => M ds
  | _ => .stuck := id rfl
@[simp] theorem x_eMethQ (c : Nat) (M : List D → Res D) (f : EFn) (fs : Slots → Res (List D)) (Γ : Slots) : eMethQ c M f fs Γ = match f Γ with
  | .ok a => if isC c a = true then (match fs Γ with
    | .ok ds => M (a :: ds)
    | _ => .stuck) else .stuck
  | _ => .stuck := id rfl
@[simp] theorem x_ifR (p : Slots → Res Bool) (g h : SFn) (Γ : Slots) : sIfR p g h Γ = thenR (p Γ) fun b => if b = true then (match g Γ with
  | .nx _ => .stuck
  | o => o) else h Γ := id rfl
@[simp] theorem x_valX (j : Nat) (g : XFn) (Γ : Slots) : sValX j g Γ = thenR (g Γ) fun p => .nx (p.2.set j (.val p.1)) := id rfl
@[simp] theorem x_dropX (g : XFn) (Γ : Slots) : sDropX g Γ = thenR (g Γ) fun p => .nx p.2 := id rfl
@[simp] theorem x_putX (j : Nat) (fk : EFn) (g : XFn) (Γ : Slots) : sPutX j fk g Γ = thenR (g Γ) fun p => sPut j fk (eC p.1) p.2 := id rfl
@[simp] theorem x_putN (i : Nat) (fk f : EFn) (Γ : Slots) : sPutN i fk f Γ = thenR (f Γ) fun d => match Γ[i]? with
  | some (.own m) => thenR (fk Γ) fun k => thenR (nput m k d) fun m' => .nx (Γ.set i (.own m'))
  | _ => .stuck := id rfl
@[simp] theorem x_setN (i : Nat) (fk f : EFn) (Γ : Slots) : xSetN i fk f Γ = match Γ[i]? with
  | some (.own (.dN kvs)) => (fk Γ).bind fun k => (f Γ).bind fun d => match nkT k with
    | some k => if kvs.length < sizeLine then (match lk kvs k with
      | some d' => .ok (d', Γ)
      | none => .ok (d, Γ.set i (.own (.dN (kvs ++ [(k, d)]))))) else .stuck
    | none => .stuck
  | _ => .stuck := id rfl
@[simp] theorem x_setdI (i : Nat) (fk f : EFn) (Γ : Slots) : xSetI i fk f Γ = match Γ[i]? with
  | some (.own (.dI kvs)) => (fk Γ).bind fun k => (f Γ).bind fun d => match k with
    | .int k => if kvs.length < sizeLine then (match lk kvs k with
      | some d' => .ok (d', Γ)
      | none => .ok (d, Γ.set i (.own (.dI (kvs ++ [(k, d)]))))) else .stuck
    | _ => .stuck
  | _ => .stuck := id rfl
@[simp] theorem x_eNOne (f g : EFn) (Γ : Slots) : eNOne f g Γ = (f Γ).bind fun k => (g Γ).bind fun v => nput (.dN []) k v := id rfl
@[simp] theorem x_eIOne (f g : EFn) (Γ : Slots) : eIOne f g Γ = (f Γ).bind fun k => (g Γ).bind fun v => match k with
  | .int i => .ok (.dI [(i, v)])
  | _ => .stuck := id rfl
@[simp] theorem x_maxDef (ns : List Int) (d : Int) : maxDefD (.lst (ns.map D.int)) (.int d) = .ok (.int (maxN d ns)) := by
  show (match asInts (ns.map D.int) with | some ns => Res.ok (D.int (maxN d ns)) | none => .stuck) = _
  rw [x_asInts]
@[simp] theorem x_lenN (xs : List (NestedKey × D)) : lenN [.dN xs] = .ok (.int xs.length) := id rfl
theorem x_repTA (xs : List D) (k : Int) (h : -1000 ≤ k ∧ k ≤ 1000 ∧ xs.length ≤ 1000) : repTA (.tup xs) (.int k) = .ok (.tup (List.replicate k.toNat xs).flatten) := if_pos h
theorem x_mulS (x : Str) (k : Int) (h : -1000 ≤ k ∧ k ≤ 1000 ∧ x.length ≤ 1000) : mulS (.str x) (.int k) = .ok (.str (strRep x k)) := if_pos h

/-! ### defs by their bodies: one step, with a proof (so that the kernel never looks into a body) -/
@[simp] theorem wipeO_rc (is : List Nat) (cs : List Cel) : wipeO is (.rc cs) = .rc cs := id rfl
@[simp] theorem x_runC (N : Nat) (ms : List Bool) (g : SFn) (ds : List D) : runC N ms g ds = outC (g (initG N ms ds)) := id rfl
@[simp] theorem outC_rc (cs : List Cel) : outC (.rc cs) = .ok cs := id rfl
@[simp] theorem x_rcNil (Γ : Slots) : rcNil Γ = .ok [] := id rfl
@[simp] theorem x_rcVal (f : EFn) (fs : Slots → Res (List Cel)) (Γ : Slots) : rcVal f fs Γ = (f Γ).bind fun d => (fs Γ).bind fun cs => .ok (.val d :: cs) := id rfl
@[simp] theorem x_rcOwn (i : Nat) (fs : Slots → Res (List Cel)) (Γ : Slots) : rcOwn i fs Γ = match Γ[i]? with
  | some (.own d) => (fs Γ).bind fun cs => .ok (.own d :: cs)
  | _ => .stuck := id rfl
theorem x_retC (fs : Slots → Res (List Cel)) (Γ : Slots) : sRetC fs Γ = thenR (fs Γ) fun cs => if cs.length ≤ sizeLine then .rc cs else .stuck := id rfl
@[simp] theorem x_parC (is : List Nat) (M : List D → Res (List Cel)) (fs : Slots → Res (List D)) (Γ : Slots) : sParC is M fs Γ = thenR ((fs Γ).bind M) fun cs => if cs.length = is.length then .nx (setAll Γ is cs) else .stuck := id rfl
@[simp] theorem x_notN (a : D) : notN a .non = .ok (.bl (!isNone a)) := by cases a <;> rfl
@[simp] theorem x_isN (a : D) : isN a .non = .ok (.bl (isNone a)) := by cases a <;> rfl
@[simp] theorem isNone_non : isNone .non = true := id rfl
@[simp] theorem isNone_int (i : Int) : isNone (.int i) = false := id rfl
@[simp] theorem isNone_bl (i : Bool) : isNone (.bl i) = false := id rfl
@[simp] theorem isNone_tup (i : List D) : isNone (.tup i) = false := id rfl
@[simp] theorem isNone_lst (i : List D) : isNone (.lst i) = false := id rfl
@[simp] theorem isNone_str (i : Str) : isNone (.str i) = false := id rfl
@[simp] theorem x_runV (N : Nat) (ms : List Bool) (g : SFn) (ds : List D) : runV N ms g ds = outV (g (initG N ms ds)) := id rfl
@[simp] theorem x_runO (N : Nat) (ms : List Bool) (g : SFn) (ds : List D) : runO N ms g ds = outO (g (initG N ms ds)) := id rfl
@[simp] theorem x_runX (N : Nat) (ms : List Bool) (g : SFn) (ds : List D) : runX N ms g ds = outX (g (initG N ms ds)) := id rfl
@[simp] theorem x_runI (c N : Nat) (ms : List Bool) (g : SFn) (ds : List D) : runI c N ms g ds = outI (g (.own (.ins c []) :: initG (N - 1) ms ds)) := id rfl
@[simp] theorem x_runXI (c N : Nat) (ms : List Bool) (g : SFn) (ds : List D) : runXI c N ms g ds = outXI (g (.own (.ins c []) :: initG (N - 1) ms ds)) := id rfl
@[simp] theorem outV_nx (Γ : Slots) : outV (.nx Γ) = .ok .non := id rfl
@[simp] theorem outV_rt (d : D) : outV (.rt d) = .ok d := id rfl
@[simp] theorem outV_ro (d : D) : outV (.ro d) = .ok d := id rfl
@[simp] theorem outO_ro (d : D) : outO (.ro d) = .ok d := id rfl
@[simp] theorem outX_nx (Γ : Slots) : outX (.nx Γ) = .ok .non := id rfl
@[simp] theorem outX_rt (d : D) : outX (.rt d) = .ok d := id rfl
@[simp] theorem outX_ro (d : D) : outX (.ro d) = .ok d := id rfl
@[simp] theorem outX_exc (e : Exn) : outX (.exc e) = .exc e := id rfl
@[simp] theorem outI_nx (Γ : Slots) : outI (.nx Γ) = match (Γ : List Cel)[0]? with
    | some (Cel.own d) => .ok d
    | _ => .stuck := id rfl
@[simp] theorem outXI_nx (Γ : Slots) : outXI (.nx Γ) = match (Γ : List Cel)[0]? with
    | some (Cel.own d) => .ok d
    | _ => .stuck := id rfl
@[simp] theorem outXI_exc (e : Exn) : outXI (.exc e) = .exc e := id rfl
@[simp] theorem x_initG (N : Nat) (ms : List Bool) (ds : List D) : initG N ms ds = cells ms ds ++ List.replicate (N - ds.length) .no := id rfl
@[simp] theorem x_cells_b (ms : List Bool) (d : D) (ds : List D) : cells (true :: ms) (d :: ds) = .bor d :: cells ms ds := id rfl
@[simp] theorem x_cells_v (ms : List Bool) (d : D) (ds : List D) : cells (false :: ms) (d :: ds) = .val d :: cells ms ds := id rfl
@[simp] theorem x_cells_n (ms : List Bool) : cells ms [] = [] := by cases ms <;> rfl
@[simp] theorem rep_succ {α : Type} (n : Nat) (a : α) : List.replicate (n + 1) a = a :: List.replicate n a := id rfl

/-! ### loops told by their state -/
section
variable {α β : Type} {h : GFn} {body : SFn} {enc : α → D}
theorem forE {i : Nat} (st : β → Slots) (φ : β → α → β) (I : β → Prop) : ∀ (xs : List α) (b : β), (∀ b x, x ∈ xs → I b → i < (st b).length ∧ (body ((st b).set i (.val (enc x))) = .nx (st (φ b x)) ∨ body ((st b).set i (.val (enc x))) = .ct (st (φ b x))) ∧ I (φ b x)) → I b →
    forD (gN i) body (xs.map enc) (st b) = .nx (st (xs.foldl φ b)) ∧ I (xs.foldl φ b)
  | [], b, _, hb => ⟨rfl, hb⟩
  | x :: xs, b, hx, hb => by
    obtain ⟨h1, h2, h3⟩ := hx b x List.mem_cons_self hb
    have ih := forE st φ I xs (φ b x) (fun b y hy => hx b y (List.mem_cons_of_mem _ hy)) h3
    rw [List.map_cons]
    unfold forD
    rw [x_gN, if_pos h1, thenG_ok]
    rcases h2 with h2 | h2 <;> (rw [h2]; exact ih)
/-- with a goal of any form -/
theorem forEg (st : β → Slots) (φ : β → α → β) (I : β → Prop) : ∀ (xs : List α) (b : β), (∀ b x, x ∈ xs → I b → ∃ Γ1, h (enc x) (st b) = .ok Γ1 ∧ (body Γ1 = .nx (st (φ b x)) ∨ body Γ1 = .ct (st (φ b x))) ∧ I (φ b x)) → I b →
    forD h body (xs.map enc) (st b) = .nx (st (xs.foldl φ b)) ∧ I (xs.foldl φ b)
  | [], b, _, hb => ⟨rfl, hb⟩
  | x :: xs, b, hx, hb => by
    obtain ⟨Γ1, h1, h2, h3⟩ := hx b x List.mem_cons_self hb
    have ih := forEg st φ I xs (φ b x) (fun b y hy => hx b y (List.mem_cons_of_mem _ hy)) h3
    rw [List.map_cons]
    unfold forD
    rw [h1, thenG_ok]
    rcases h2 with h2 | h2 <;> (rw [h2]; exact ih)
/-- told by the turn, too -/
theorem forEi {i : Nat} (st : β → Slots) (φ : β → α → β) (I : Nat → β → Prop) : ∀ (xs : List α) (k : Nat) (b : β), (∀ j b x, xs[j]? = some x → I (k + j) b → i < (st b).length ∧ (body ((st b).set i (.val (enc x))) = .nx (st (φ b x)) ∨ body ((st b).set i (.val (enc x))) = .ct (st (φ b x))) ∧ I (k + j + 1) (φ b x)) → I k b →
    forD (gN i) body (xs.map enc) (st b) = .nx (st (xs.foldl φ b)) ∧ I (k + xs.length) (xs.foldl φ b)
  | [], k, b, _, hb => ⟨rfl, hb⟩
  | x :: xs, k, b, hx, hb => by
    obtain ⟨h1, h2, h3⟩ := hx 0 b x rfl hb
    have ih := forEi st φ I xs (k + 1) (φ b x) (fun j b y hy hI => by
      have := hx (j + 1) b y (by simpa using hy) (by rw [show k + (j + 1) = k + 1 + j by omega]; exact hI)
      rw [show k + (j + 1) = k + 1 + j by omega] at this
      exact this) h3
    rw [List.map_cons]
    unfold forD
    rw [x_gN, if_pos h1, thenG_ok]
    rw [List.length_cons, show k + (xs.length + 1) = k + 1 + xs.length by omega]
    rcases h2 with h2 | h2 <;> (rw [h2]; exact ih)
/-- a while by a measure -/
theorem whileE {c : Slots → Res Bool} (st : β → Slots) (R : β → β → Prop) (μ : β → Nat) (b0 bz : β) (hR : R b0 bz)
    (step : ∀ b, R b bz → (c (st b) = .ok false ∧ b = bz) ∨ (c (st b) = .ok true ∧ ∃ b', (body (st b) = .nx (st b') ∨ body (st b) = .ct (st b')) ∧ R b' bz ∧ μ b' < μ b)) :
    ∀ n, μ b0 < n → whileD c body n (st b0) = .nx (st bz) := by
  intro n
  induction n generalizing b0 with
  | zero => intro h; omega
  | succ n ih =>
    intro h
    unfold whileD
    rcases step b0 hR with ⟨h1, h2⟩ | ⟨h1, b', h2, h3, h4⟩
    · rw [h1, thenR_ok, if_neg Bool.false_ne_true, h2]
    · rw [h1, thenR_ok, if_pos rfl]
      have := ih b' h3 (by omega)
      rcases h2 with h2 | h2 <;> (rw [h2]; exact this)
end
/-- a loop that only looks -/
theorem forChk {body : SFn} {i : Nat} {Γ : Slots} (q : D → Bool) (e : Exn) : ∀ (ds : List D), (∀ d ∈ ds, i < Γ.length ∧ body (Γ.set i (.val d)) = if q d = true then .nx Γ else .exc e) → forD (gN i) body ds Γ = if ds.all q = true then .nx Γ else .exc e
  | [], _ => rfl
  | d :: ds, h => by
    obtain ⟨h1, h2⟩ := h d List.mem_cons_self
    have ih := forChk q e ds fun x hx => h x (List.mem_cons_of_mem _ hx)
    unfold forD
    rw [x_gN, if_pos h1, thenG_ok, h2, List.all_cons]
    cases hq : q d with
    | true =>
      rw [if_pos rfl, Bool.true_and]
      exact ih
    | false =>
      rw [if_neg Bool.false_ne_true, Bool.false_and, if_neg Bool.false_ne_true]
/-- the items of a list or tuple -/
def seqOf : D → Option (List D)
  | .lst xs => some xs
  | .tup xs => some xs
  | _ => none
def kn : D → Bool
  | .lst xs => xs.all fun x => (tyOf x).isSome
  | .tup xs => xs.all fun x => (tyOf x).isSome
  | .scr _ => false
  | d => (tyOf d).isSome
theorem kn_isi {r : D} (h : kn r = true) : isiT [r, .tup [.ty .lst, .ty .tup]] = .ok (.bl (seqOf r).isSome) := by
  cases r <;> first | rfl | (simp [kn, tyOf] at h; done)
theorem kn_isiT {r : D} (h : kn r = true) : isiD [r, .ty .tup] = .ok (.bl (match r with | .tup _ => true | _ => false)) := by
  cases r <;> first | rfl | (simp [kn, tyOf] at h; done)
/-! ### parts of lists -/
theorem cut_from {α : Type} (xs : List α) (k : Nat) : cutG xs (some (k : Int)) none = xs.drop k := by
  unfold cutG
  rw [HT.sIx_nat, HT.sIx_none]
  by_cases h : k ≤ xs.length
  · rw [Nat.min_eq_left h, List.take_of_length_le (by rw [List.length_drop]; exact Nat.le_refl _)]
  · rw [Nat.min_eq_right (by omega), List.drop_length, List.drop_eq_nil_of_le (by omega), List.take_nil]
theorem cut_to {α : Type} (xs : List α) (k : Nat) : cutG xs none (some (k : Int)) = xs.take k := by
  unfold cutG
  rw [HT.sIx_nat, HT.sIx_none, List.drop_zero, Nat.sub_zero]
  by_cases h : k ≤ xs.length
  · rw [Nat.min_eq_left h]
  · rw [Nat.min_eq_right (by omega), List.take_length, List.take_of_length_le (by omega)]
theorem cut_1 {α : Type} (xs : List α) : cutG xs (some 1) none = xs.drop 1 := cut_from xs 1
theorem cut_m1 {α : Type} (xs : List α) : cutG xs none (some (-1)) = xs.dropLast := by
  unfold cutG
  rw [HT.sIx_none, List.drop_zero, Nat.sub_zero, List.dropLast_eq_take]
  congr 1
  show (if (-1 : Int) < 0 then ((-1 : Int) + (xs.length : Int)).toNat else min (-1 : Int).toNat xs.length) = _
  rw [if_pos (by omega)]
  omega
theorem x_slT (xs : List D) (lo hi : Option Int) : slT (.tup xs) lo hi = .ok (.tup (cutG xs lo hi)) := id rfl
theorem x_slL (xs : List D) (lo hi : Option Int) : slL (.lst xs) lo hi = .ok (.lst (cutG xs lo hi)) := id rfl
theorem catT_ok {xs ys : List D} (h : xs.length + ys.length ≤ 16777216) : catT (.tup xs) (.tup ys) = .ok (.tup (xs ++ ys)) := if_pos (sizeLe h)
theorem catL_ok {xs ys : List D} (h : xs.length + ys.length ≤ 16777216) : catL (.lst xs) (.lst ys) = .ok (.lst (xs ++ ys)) := if_pos (sizeLe h)
end FL

/-! FLG: an own list whose items are own lists, for a stretch of statements. -/
namespace FL
open PySem PySem.Spec PyProof.Rows L2

/-- slot i holds such a list; the slots' cell there is empty -/
structure Grp (K : PySem.W.Frag) (ce : CE) (i : Nat) (rows : List D) (a : Addr) (bs : List Addr) (Γ : Slots) (σ : L2.St) (F H H0 : Hp) : Prop where
  slot : σ[i]? = some (some (.ref a))
  cel : Γ[i]? = some .no
  obj : H a = some (.lst (bs.map V.ref))
  nod : (a :: bs).Nodup
  len : bs.length = rows.length
  inn : ∀ (k : Nat) (b : Addr) (d : D), bs[k]? = some b → rows[k]? = some d → ∃ o, H b = some o ∧ ObjRep K ce F b d o
  out : ∀ b ∈ a :: bs, F b = none ∧ H0 b = none
  sep : ∀ b ∈ a :: bs, ∀ (j : Nat) (d : D), Γ[j]? = some (.own d) → σ[j]? ≠ some (some (.ref b))
inductive GO where
  | nx (Γ : Slots) (rows : List D)
  | out (o : Out)
abbrev GF := Slots → List D → GO
def only : Out → Out
  | .rt d => .rt d
  | .ro d => .ro d
  | .exc e => .exc e
  | _ => .stuck
def GOk (K : PySem.W.Frag) (ce : CE) (W : Wish) (i : Nat) (H0 F0 F : Hp) (N : Ends) : GO → Prop
  | .nx Γ rows => ∀ a bs σ F' H, Sta K ce none none H0 F0 Γ σ F' H → Grp K ce i rows a bs Γ σ F' H H0 → Same F F' → N.nx σ H
  | .out o => OutOk K ce W none none H0 F0 F N (only o)
def DenGr (K : PySem.W.Frag) (ce : CE) (W : Wish) (i : Nat) (t : TS) (g : GF) : Prop := ∀ (H0 F0 : Hp) (Γ : Slots) (σ : L2.St) (F H : Hp) (N : Ends) (rows : List D) (a : Addr) (bs : List Addr),
  Sta K ce none none H0 F0 Γ σ F H → Grp K ce i rows a bs Γ σ F H H0 → GOk K ce W i H0 F0 F N (g Γ rows) → t N σ H
/-- fresh objects, one for each -/
def DenFL (K : PySem.W.Frag) (ce : CE) (W : Wish) (t : TA) (fs : Slots → Res (List D)) : Prop := ∀ (Γ : Slots) (σ : L2.St) (F H : Hp) (Q : List V → Hp → Prop), Ev K ce Γ σ F H →
  (fs Γ).wp (W.W H) (fun ds => ∀ (bs : List Addr) (F' H' : Hp), Ext F H F' H' → bs.Nodup → bs.length = ds.length → (∀ (k : Nat) (b : Addr) (d : D), bs[k]? = some b → ds[k]? = some d → ∃ o, H' b = some o ∧ ObjRep K ce F' b d o) → (∀ b ∈ bs, F' b = none ∧ H b = none) → Q (bs.map V.ref) H') → t σ H Q

def gNx : GF := fun Γ rows => .nx Γ rows
def gSeq (g h : GF) : GF := fun Γ rows => match g Γ rows with
  | .nx Γ' r' => h Γ' r'
  | .out o => .out (only o)
def noC : Cel → Bool
  | .no => true
  | _ => false
def noB : Cel → Bool
  | .bor _ => false
  | _ => true
def okG (i : Nat) (Γ : Slots) : Bool := (Γ[i]?.any noC) && Γ.all noB
def gLift (i : Nat) (g : SFn) : GF := fun Γ rows => match g Γ with
  | .nx Γ' => if okG i Γ' = true then .nx Γ' rows else .out .stuck
  | .exc e => .out (.exc e)
  | _ => .out .stuck
def gThen {α : Type} (r : Res α) (f : α → GO) : GO := match r with
  | .ok a => f a
  | .exc e => .out (.exc e)
  | .stuck => .out .stuck
def gIf (c : Slots → Res Bool) (g h : GF) : GF := fun Γ rows => gThen (c Γ) fun b => if b = true then g Γ rows else h Γ rows
def gWipe (is : List Nat) (g : GF) : GF := fun Γ rows => match g Γ rows with
  | .nx Γ' r' => .nx (wipeG Γ' is) r'
  | .out o => .out o
def forG (h : GFn) (body : GF) : List D → GF
  | [], Γ, rows => .nx Γ rows
  | d :: r, Γ, rows => match h d Γ with
    | .ok Γ1 => (match body Γ1 rows with
      | .nx Γ2 rows2 => forG h body r Γ2 rows2
      | .out o => .out (only o))
    | _ => .out .stuck
def gFor (its : Slots → Res (List D)) (h : GFn) (body : GF) : GF := fun Γ rows => gThen (its Γ) fun ds => forG h body ds Γ rows
/-- x.append(y), y an own list -/
def gAppO (j : Nat) : GF := fun Γ rows => match Γ[j]? with
  | some (.own d) => if rows.length < sizeLine then .nx (Γ.set j .no) (rows ++ [d]) else .out .stuck
  | _ => .out .stuck
/-- x.append(e), e new -/
def gAppF (f : EFn) : GF := fun Γ rows => gThen (f Γ) fun d => if rows.length < sizeLine then .nx Γ (rows ++ [d]) else .out .stuck
/-- x[z].append(e) -/
def gAppI (z : Int) (f : EFn) : GF := fun Γ rows => match ixN rows.length z with
  | some k => (match rows[k]? with
    | some (.lst xs) => gThen (f Γ) fun d => if xs.length < sizeLine then .nx Γ (rows.set k (.lst (xs ++ [d]))) else .out .stuck
    | _ => .out .stuck)
  | none => .out .stuck
/-- x[z][fi] = e -/
def gSetI (z : Int) (fi f : EFn) : GF := fun Γ rows => gThen (f Γ) fun d => match ixN rows.length z with
  | some k => (match rows[k]? with
    | some (.lst xs) => gThen (fi Γ) fun w => (match w with
      | .int w => (match ixN xs.length w with
        | some j => .nx Γ (rows.set k (.lst (xs.set j d)))
        | none => .out .stuck)
      | _ => .out .stuck)
    | _ => .out .stuck)
  | none => .out .stuck
/-- from here on it is an own list of frozen ones -/
def gEnd (i : Nat) (g : SFn) : GF := fun Γ rows => .out (g (Γ.set i (.own (.lst rows))))
def goOut : GO → Out
  | .nx _ _ => .stuck
  | .out o => only o
def sGrp (i : Nat) (fs : Slots → Res (List D)) (g : GF) : SFn := fun Γ => thenR (fs Γ) fun ds => if ds.length ≤ sizeLine ∧ i < Γ.length then goOut (g (Γ.set i .no) ds) else .stuck

section
variable {K : PySem.W.Frag} {ce : CE} {W : Wish} {i : Nat} {H0 F0 F H : Hp} {Γ : Slots} {σ : L2.St} {N M : Ends} {t u : TS} {g h : GF} {te ti : TE} {tA : TA} {f fi : EFn} {fs : Slots → Res (List D)} {rows : List D} {a : Addr} {bs : List Addr} {z : Option Nat} {s0 : Option (Option V)}
theorem only_ok {o : Out} (h : OutOk K ce W z s0 H0 F0 F N (only o)) : OutOk K ce W z s0 H0 F0 F N o := by
  cases o <;> first | exact h | exact h.elim
theorem only_only (o : Out) : only (only o) = only o := by cases o <;> rfl
theorem only_ends {o : Out} (hr : M.rt = N.rt) (h : OutOk K ce W z s0 H0 F0 F N (only o)) : OutOk K ce W z s0 H0 F0 F M (only o) := by
  cases o
  case rt d => exact fun v F' H x r => by rw [hr]; exact h v F' H x r
  case ro d => exact fun a o F' H x p q r s => by rw [hr]; exact h a o F' H x p q r s
  case exc e => exact h
  all_goals exact h.elim
theorem GOk.mono {F' : Hp} (s : Same F F') : ∀ {o : GO}, GOk K ce W i H0 F0 F N o → GOk K ce W i H0 F0 F' N o
  | .nx Γ r, h => fun a bs σ F2 H st gr s2 => h a bs σ F2 H st gr (s.trans s2)
  | .out o, h => OutOk.mono s h
theorem Grp.ext {F' H' : Hp} (x : Ext F H F' H') (r : Grp K ce i rows a bs Γ σ F H H0) : Grp K ce i rows a bs Γ σ F' H' H0 := by
  refine ⟨r.slot, r.cel, x.sH _ _ r.obj, r.nod, r.len, fun k b d h1 h2 => ?_, fun b hb => ⟨?_, (r.out b hb).2⟩, r.sep⟩
  · obtain ⟨o, q1, q2⟩ := r.inn k b d h1 h2
    exact ⟨o, x.sH _ _ q1, ObjRep.mono x.sF _ _ q2⟩
  · have key : ∃ o, H b = some o := by
      rcases List.mem_cons.mp hb with rfl | hb
      · exact ⟨_, r.obj⟩
      · obtain ⟨k, hk⟩ := List.getElem?_of_mem hb
        have hk2 : k < rows.length := by rw [← r.len]; exact (List.getElem?_eq_some_iff.mp hk).1
        obtain ⟨o, q, _⟩ := r.inn k b _ hk (List.getElem?_eq_getElem hk2)
        exact ⟨o, q⟩
    obtain ⟨o, q⟩ := key
    exact (ext_own x (r.out b hb).1 q).1
theorem Grp.there (r : Grp K ce i rows a bs Γ σ F H H0) {b : Addr} (hb : b ∈ a :: bs) : ∃ o, H b = some o := by
  rcases List.mem_cons.mp hb with rfl | hb
  · exact ⟨_, r.obj⟩
  · obtain ⟨k, hk⟩ := List.getElem?_of_mem hb
    have hk2 : k < rows.length := by rw [← r.len]; exact (List.getElem?_eq_some_iff.mp hk).1
    obtain ⟨o, q, _⟩ := r.inn k b _ hk (List.getElem?_eq_getElem hk2)
    exact ⟨o, q⟩
/-- an object that no slot knows is written -/
theorem sta_poke {o' : HO} (st : Sta K ce z s0 H0 F0 Γ σ F H) (hF : F a = none) (h0 : H0 a = none) (hs : ∀ (j : Nat) (d : D), Γ[j]? = some (.own d) → σ[j]? ≠ some (some (.ref a))) : Sta K ce z s0 H0 F0 Γ σ F (upd H a o') := by
  have up : ∀ {G : Hp}, Same G H → G a = none → Same G (upd H a o') := fun {G} s n b q e => by
    rw [upd_ne (ne_of_none e n)]
    exact s _ _ e
  refine ⟨⟨up st.ev.sub hF, fun j c e => ?_, st.ev.len⟩, ⟨st.x.sF, up st.x.sH h0, up st.x.sub hF, st.x.new⟩, st.own, st.sep, st.bor, st.slf⟩
  have q := st.ev.cells j c e
  cases c with
  | no => trivial
  | val d => exact q
  | own d2 =>
    obtain ⟨b, o2, p1, p2, p3, p4⟩ := q
    refine ⟨b, o2, p1, p2, ?_, p4⟩
    rw [upd_ne]
    · exact p3
    · rintro rfl
      exact hs j d2 e p1
  | bor d2 =>
    obtain ⟨v, p1, p2⟩ := st.bor j d2 e
    exact ⟨v, p1, BRep.mono st.x.sF (up st.x.sH h0) _ _ p2⟩

theorem gs_nil : DenGr K ce W i tNext gNx := fun H0 F0 Γ σ F H N rows a bs st gr h => h a bs σ F H st gr (.refl _)
theorem gs_seq (x : DenGr K ce W i t g) (y : DenGr K ce W i u h) : DenGr K ce W i (tSeq t u) (gSeq g h) := fun H0 F0 Γ σ F H N rows a bs st gr hh => by
  refine x H0 F0 Γ σ F H { N with nx := u N } rows a bs st gr ?_
  unfold gSeq at hh
  cases q : g Γ rows with
  | nx Γ' r' => rw [q] at hh; exact fun a' bs' σ' F' H' st' gr' s' => y H0 F0 Γ' σ' F' H' N r' a' bs' st' gr' (GOk.mono s' hh)
  | out o =>
    rw [q] at hh
    refine only_ends (N := N) rfl ?_
    have : OutOk K ce W none none H0 F0 F N (only (only o)) := hh
    rw [only_only] at this
    exact this
theorem gs_wipe (is : List Nat) (x : DenGr K ce W i t g) (hi : i ∉ is := by decide) : DenGr K ce W i t (gWipe is g) := fun H0 F0 Γ σ F H N rows a bs st gr hh => by
  refine x H0 F0 Γ σ F H N rows a bs st gr ?_
  unfold gWipe at hh
  cases q : g Γ rows with
  | nx Γ' r' =>
    rw [q] at hh
    refine fun a' bs' σ' F' H' st' gr' s' => hh a' bs' σ' F' H' (st'.wipe is) ⟨gr'.slot, ?_, gr'.obj, gr'.nod, gr'.len, gr'.inn, gr'.out, fun b hb j d e => ?_⟩ s'
    · have hl : i < (wipeG Γ' is).length := by rw [wipeG_len]; exact (List.getElem?_eq_some_iff.mp gr'.cel).1
      have e : (wipeG Γ' is)[i]? = some (wipeG Γ' is)[i] := List.getElem?_eq_getElem hl
      rcases wipeG_get e with q | ⟨q, _⟩
      · rw [e, q]
      · rw [e, ← q, gr'.cel]
    · rcases wipeG_get e with q | ⟨e1, _⟩
      · cases q
      · exact gr'.sep b hb j d e1
  | out o => rw [q] at hh; exact hh
theorem gs_if {c : TT} {p : Slots → Res Bool} (zz : DenT K ce W c p) (x : DenGr K ce W i t g) (y : DenGr K ce W i u h) : DenGr K ce W i (tIfS c t u) (gIf p g h) := fun H0 F0 Γ σ F H N rows a bs st gr hh => by
  refine zz Γ σ F H _ st.ev ?_
  unfold gIf at hh
  cases q : p Γ with
  | ok b =>
    rw [q] at hh
    refine fun F' H' e => ?_
    cases b with
    | true =>
      have hh : GOk K ce W i H0 F0 F N (g Γ rows) := hh
      rw [if_pos rfl]
      exact x H0 F0 Γ σ F' H' N rows a bs (st.ext e) (gr.ext e) (GOk.mono e.sF hh)
    | false =>
      have hh : GOk K ce W i H0 F0 F N (h Γ rows) := hh
      rw [if_neg Bool.false_ne_true]
      exact y H0 F0 Γ σ F' H' N rows a bs (st.ext e) (gr.ext e) (GOk.mono e.sF hh)
  | exc e => rw [q] at hh; exact W.mono st.x.sH hh
  | stuck => rw [q] at hh; exact hh.elim
/-- a statement that leaves the list alone -/
theorem gs_lift {s : SFn} (x : DenS K ce W (some i) t s) : DenGr K ce W i t (gLift i s) := fun H0 F0 Γ σ F H N rows a bs st gr hh => by
  have hn : ∀ b ∈ a :: bs, ∃ o, H b = some o := fun b hb => gr.there hb
  let H0' : Hp := fun b => if b ∈ a :: bs then H b else H0 b
  have e1 : ∀ b, b ∈ a :: bs → H0' b = H b := fun b hb => if_pos hb
  have e2 : ∀ b, b ∉ a :: bs → H0' b = H0 b := fun b hb => if_neg hb
  have s1 : Same H0 H0' := fun b o e => by
    by_cases hb : b ∈ a :: bs
    · rw [(gr.out b hb).2] at e; cases e
    · rw [e2 b hb]; exact e
  have s2 : Same H0' H := fun b o e => by
    by_cases hb : b ∈ a :: bs
    · rw [e1 b hb] at e; exact e
    · rw [e2 b hb] at e; exact st.x.sH _ _ e
  have st1 : Sta K ce (some i) (some (some (.ref a))) H0' F0 Γ σ F H := by
    refine ⟨st.ev, ⟨st.x.sF, s2, st.x.sub, fun b h1 h2 => ?_⟩, fun j d b h1 h2 => ?_, st.sep, fun j d h1 => ?_, fun k q => by cases q; exact gr.slot⟩
    · by_cases hb : b ∈ a :: bs
      · exact (h2 (gr.out b hb).1).elim
      · rw [e2 b hb]; exact st.x.new b h1 h2
    · by_cases hb : b ∈ a :: bs
      · exact (gr.sep b hb j d h1 h2).elim
      · rw [e2 b hb]; exact st.own j d b h1 h2
    · obtain ⟨v, q1, q2⟩ := st.bor j d h1
      exact ⟨v, q1, BRep.mono (.refl _) s1 _ _ q2⟩
  refine x _ H0' F0 Γ σ F H N st1 ?_
  unfold gLift at hh
  cases q : s Γ with
  | nx Γ' =>
    rw [q] at hh
    simp only at hh
    split at hh
    · rename_i hok
      unfold okG at hok
      rw [Bool.and_eq_true] at hok
      refine fun σ' F' H' st' s' => hh a bs σ' F' H' ⟨st'.ev, ⟨st'.x.sF, s1.trans st'.x.sH, st'.x.sub, fun b h1 h2 => s1.free (st'.x.new b h1 h2)⟩, fun j d b h1 h2 => s1.free (st'.own j d b h1 h2), st'.sep, fun j d h1 => ?_, fun k q => nomatch q⟩ ⟨st'.slf i rfl, ?_, ?_, gr.nod, gr.len, fun k b d h1 h2 => ?_, fun b hb => ⟨?_, (gr.out b hb).2⟩, fun b hb j d h1 h2 => ?_⟩ s'
      · have := List.all_eq_true.mp hok.2 _ (List.mem_of_getElem? h1)
        cases this
      · cases w : Γ'[i]? with
        | none => rw [w] at hok; cases hok.1
        | some c =>
          rw [w] at hok
          cases c with
          | no => rfl
          | _ => cases hok.1
      · exact st'.x.sH _ _ (by rw [e1 a List.mem_cons_self]; exact gr.obj)
      · obtain ⟨o, p1, p2⟩ := gr.inn k b d h1 h2
        exact ⟨o, st'.x.sH _ _ (by rw [e1 b (List.mem_cons_of_mem _ (List.mem_of_getElem? h1))]; exact p1), ObjRep.mono s' _ _ p2⟩
      · cases w : F' b with
        | none => rfl
        | some o =>
          obtain ⟨o2, p⟩ := hn b hb
          have := st'.x.new b (st.x.sF.free (gr.out b hb).1) (by rw [w]; exact fun y => nomatch y)
          rw [e1 b hb, p] at this
          cases this
      · have := st'.own j d b h1 h2
        obtain ⟨o2, p⟩ := hn b hb
        rw [e1 b hb, p] at this
        cases this
    · exact hh.elim
  | exc e => rw [q] at hh; exact W.mono s1 hh
  | bk Γ' => rw [q] at hh; exact hh.elim
  | ct Γ' => rw [q] at hh; exact hh.elim
  | rt d => rw [q] at hh; exact hh.elim
  | ro d => rw [q] at hh; exact hh.elim
  | rc d => rw [q] at hh; exact hh.elim
  | stuck => rw [q] at hh; exact hh.elim
theorem Grp.upd {is : List Nat} {Γ' : Slots} {σ' : L2.St} (gr : Grp K ce i rows a bs Γ σ F H H0) (hi : i ∉ is) (u : Upd is Γ Γ' σ σ') : Grp K ce i rows a bs Γ' σ' F H H0 := by
  have q : Γ'[i]? = Γ[i]? ∧ σ'[i]? = σ[i]? := by
    rcases u.at_ i with ⟨h, _⟩ | h
    · exact (hi h).elim
    · exact h
  refine ⟨by rw [q.2]; exact gr.slot, by rw [q.1]; exact gr.cel, gr.obj, gr.nod, gr.len, gr.inn, gr.out, fun b hb j d e => ?_⟩
  rcases u.at_ j with ⟨_, d', h⟩ | ⟨h1, h2⟩
  · rw [e] at h; cases h
  · rw [h2]
    exact gr.sep b hb j d (by rw [← h1]; exact e)
theorem gs_for {wi : TI} {tg : TG} {its : Slots → Res (List D)} {hd : GFn} {is : List Nat} {body : GF} (hi : DenI K ce W wi its) (hg : DenG K ce is tg hd) (hb : DenGr K ce W i t body) (hn : i ∉ is := by decide) : DenGr K ce W i (tFor wi tg t) (gFor its hd body) := fun H0 F0 Γ σ F H N rows a bs st gr hh => by
  refine hi Γ σ F H _ st.ev ?_
  unfold gFor at hh
  cases q : its Γ with
  | exc e => rw [q] at hh; exact W.mono st.x.sH hh
  | stuck => rw [q] at hh; exact hh.elim
  | ok ds =>
    rw [q] at hh
    have hh : GOk K ce W i H0 F0 F N (forG hd body ds Γ rows) := hh
    refine fun J F1 H1 x1 io => ?_
    have st0 := st.ext x1
    have gr0 := gr.ext x1
    have k := GOk.mono x1.sF hh
    refine ⟨fun n m σ' H' => ∃ Γ' F' rows' a' bs', m = ds.length - n ∧ n ≤ ds.length ∧ Sta K ce none none H0 F0 Γ' σ' F' H' ∧ Grp K ce i rows' a' bs' Γ' σ' F' H' H0 ∧ Same F1 F' ∧ GOk K ce W i H0 F0 F' N (forG hd body (ds.drop n) Γ' rows'), ⟨ds.length, Γ, F1, rows, a, bs, by simp, Nat.zero_le _, st0, gr0, .refl _, by rw [List.drop_zero]; exact k⟩, ?_⟩
    rintro n m σ' H' ⟨Γ', F', rows', a', bs', rfl, hi', st', gr', s', ok⟩
    obtain ⟨go, stop⟩ := io F' H' s' st'.ev.sub noSame
    by_cases hlt : n < ds.length
    · have ed : ds[n]? = some ds[n] := List.getElem?_eq_getElem hlt
      obtain ⟨g1, g2⟩ := go n _ ed
      rw [List.drop_eq_getElem_cons hlt] at ok
      unfold forG at ok
      refine .inr ⟨g1, fun σ2 H2 => ∃ Γ' F' rows' a' bs', n + 1 ≤ ds.length ∧ Sta K ce none none H0 F0 Γ' σ2 F' H2 ∧ Grp K ce i rows' a' bs' Γ' σ2 F' H2 H0 ∧ Same F1 F' ∧ GOk K ce W i H0 F0 F' N (forG hd body (ds.drop (n + 1)) Γ' rows'), ?_, fun v H2 hy => ?_⟩
      · rintro σ2 H2 ⟨Γ2, F2, r2, a2, b2, h1, h2, h3, h4, h5⟩
        exact ⟨_, (by omega : ds.length - (n + 1) < ds.length - n), Γ2, F2, r2, a2, b2, rfl, h1, h2, h3, h4, h5⟩
      · obtain ⟨F2, y2, rd⟩ := g2 v H2 hy
        refine hg Γ' σ' F2 H2 v _ _ (st'.ev.ext y2) rd ?_
        cases q1 : hd ds[n] Γ' with
        | exc c => rw [q1] at ok; exact ok.elim
        | stuck => rw [q1] at ok; exact ok.elim
        | ok Γ1 =>
          rw [q1] at ok
          refine fun σ1 ev1 u1 => ?_
          have st1 := (st'.ext y2).upd (fun _ _ z => nomatch z) ev1 u1
          have gr1 := (gr'.ext y2).upd hn u1
          have s2 : Same F1 F2 := s'.trans y2.sF
          refine hb H0 F0 Γ1 σ1 F2 H2 _ rows' a' bs' st1 gr1 ?_
          have ok' : GOk K ce W i H0 F0 F' N (match body Γ1 rows' with
            | .nx Γ2 rows2 => forG hd body (ds.drop (n + 1)) Γ2 rows2
            | .out o => .out (only o)) := ok
          cases q2 : body Γ1 rows' with
          | nx Γ2 r2 => rw [q2] at ok'; exact fun a3 b3 σ3 F3 H3 st3 gr3 s3 => ⟨Γ2, F3, r2, a3, b3, hlt, st3, gr3, s2.trans s3, GOk.mono (y2.sF.trans s3) ok'⟩
          | out o =>
            rw [q2] at ok'
            have w : OutOk K ce W none none H0 F0 F' N (only (only o)) := ok'
            rw [only_only] at w
            exact OutOk.mono y2.sF (only_ends (N := N) rfl w)
    · have e : n = ds.length := by omega
      subst e
      rw [List.drop_length] at ok
      exact .inl ⟨stop, ok a' bs' σ' F' H' st' gr' (.refl _)⟩
end
end FL

/-! FLH: .. its writes, its begin, its end; simp laws. -/
namespace FL
open PySem PySem.Spec PyProof.Rows L2
section
variable {K : PySem.W.Frag} {ce : CE} {W : Wish} {i : Nat} {H0 F0 F H : Hp} {Γ : Slots} {σ : L2.St} {N M : Ends} {t u : TS} {g h : GF} {te ti : TE} {tA : TA} {f fi : EFn} {fs : Slots → Res (List D)} {rows : List D} {a : Addr} {bs : List Addr} {z : Option Nat} {s0 : Option (Option V)}
/-- the list gets one more item b -/
theorem grp_push {b : Addr} {o : HO} {d : D} (gr : Grp K ce i rows a bs Γ σ F H H0) (hb : b ∉ a :: bs) (hF : F b = none) (h0 : H0 b = none) (hH : H b = some o) (r : ObjRep K ce F b d o) (hs : ∀ (j : Nat) (d : D), Γ[j]? = some (.own d) → σ[j]? ≠ some (some (.ref b))) :
    Grp K ce i (rows ++ [d]) a (bs ++ [b]) Γ σ F (upd H a (.lst (bs.map V.ref ++ [.ref b]))) H0 := by
  have na : b ≠ a := fun e => hb (e ▸ List.mem_cons_self)
  have nb : b ∉ bs := fun e => hb (List.mem_cons_of_mem _ e)
  have an : a ∉ bs := (List.nodup_cons.mp gr.nod).1
  refine ⟨gr.slot, gr.cel, by rw [upd_same, List.map_append]; rfl, ?_, by rw [List.length_append, List.length_append, gr.len]; rfl, fun k c e h1 h2 => ?_, fun c hc => ?_, fun c hc j e h1 => ?_⟩
  · refine List.nodup_cons.mpr ⟨fun q => ?_, ?_⟩
    · rcases List.mem_append.mp q with q | q
      · exact an q
      · exact na (List.mem_singleton.mp q).symm
    · refine List.nodup_append.mpr ⟨(List.nodup_cons.mp gr.nod).2, by simp, fun x hx y hy => ?_⟩
      rw [List.mem_singleton] at hy
      subst hy
      exact fun e => nb (e ▸ hx)
  · rcases Nat.lt_or_ge k bs.length with hk | hk
    · rw [List.getElem?_append_left hk] at h1
      rw [List.getElem?_append_left (by rw [← gr.len]; exact hk)] at h2
      obtain ⟨o2, q1, q2⟩ := gr.inn k c e h1 h2
      refine ⟨o2, ?_, q2⟩
      rw [upd_ne]
      · exact q1
      · rintro rfl
        exact an (List.mem_of_getElem? h1)
    · rw [List.getElem?_append_right hk] at h1
      rw [List.getElem?_append_right (by rw [← gr.len]; exact hk), ← gr.len] at h2
      have h3 : k - bs.length = 0 := by
        rcases Nat.eq_zero_or_pos (k - bs.length) with q | q
        · exact q
        · rw [List.getElem?_eq_none (by simp; omega)] at h1; cases h1
      rw [h3] at h1 h2
      cases h1
      cases h2
      exact ⟨o, by rw [upd_ne na]; exact hH, r⟩
  · rw [← List.cons_append, List.mem_append, List.mem_singleton] at hc
    rcases hc with hc | rfl
    · exact gr.out c hc
    · exact ⟨hF, h0⟩
  · rw [← List.cons_append, List.mem_append, List.mem_singleton] at hc
    rcases hc with hc | rfl
    · exact gr.sep c hc j e h1
    · exact hs j e h1
theorem gs_appO (j : Nat) : DenGr K ce W i (tDrop (tBM K "list" rAppend (tVar i) (tCons (tVar j) tNil))) (gAppO j) := fun H0 F0 Γ σ F H N rows a bs st gr hh => by
  unfold gAppO at hh
  split at hh
  · rename_i d e
    split at hh
    · rename_i hz
      obtain ⟨b, o, h1, h2, h3, h4⟩ := st.ev.cells j _ e
      have hij : i ≠ j := fun q => by
        subst q
        rw [gr.cel] at e
        cases e
      refine ⟨_, gr.slot, .inl ⟨rfl, _, .of gr.obj⟩, _, h1, a, _, .ref b, rfl, rfl, gr.obj, by rw [List.length_map, gr.len]; exact hz, ?_⟩
      have hb : b ∉ a :: bs := fun q => gr.sep b q j d e h1
      have key : ∀ (k : Nat) (c : D), (Γ.set j .no)[k]? = some (.own c) → Γ[k]? = some (.own c) ∧ j ≠ k := fun k c q => by
        by_cases w : j = k
        · subst w
          rw [List.getElem?_set_self (List.getElem?_eq_some_iff.mp e).1] at q
          cases q
        · rw [List.getElem?_set_ne w] at q
          exact ⟨q, w⟩
      have hsj : σ.set j (some (.ref b)) = σ := by
        refine List.ext_getElem? fun k => ?_
        by_cases w : j = k
        · subst w
          rw [List.getElem?_set_self (List.getElem?_eq_some_iff.mp h1).1, h1]
        · rw [List.getElem?_set_ne w]
      have st1 : Sta K ce none none H0 F0 (Γ.set j .no) σ F H := by
        have := Sta.setE (z := none) (i := j) (v := some (.ref b)) (fun q => nomatch q) st
        rw [hsj] at this
        exact this
      have gr1 : Grp K ce i rows a bs (Γ.set j .no) σ F H H0 := ⟨gr.slot, by rw [List.getElem?_set_ne (Ne.symm hij)]; exact gr.cel, gr.obj, gr.nod, gr.len, gr.inn, gr.out, fun c hc k q1 q2 => gr.sep c hc k q1 (key k q1 q2).1⟩
      refine hh a (bs ++ [b]) σ F _ (sta_poke st1 (gr.out a List.mem_cons_self).1 (gr.out a List.mem_cons_self).2 (gr1.sep a List.mem_cons_self)) (grp_push gr1 hb h2 (st.own j d b e h1) h3 h4 fun k c q1 q2 => ?_) (.refl _)
      obtain ⟨p1, p2⟩ := key k c q1
      exact st.sep j k d c b p2 e p1 h1 q2
    · exact hh.elim
  · exact hh.elim
theorem gs_appF (x : DenF K ce W te f) : DenGr K ce W i (tDrop (tBM K "list" rAppend (tVar i) (tCons te tNil))) (gAppF f) := fun H0 F0 Γ σ F H N rows a bs st gr hh => by
  refine ⟨_, gr.slot, .inl ⟨rfl, _, .of gr.obj⟩, x Γ σ F H _ st.ev ?_⟩
  unfold gAppF at hh
  cases q : f Γ with
  | exc e => rw [q] at hh; exact W.mono st.x.sH hh
  | stuck => rw [q] at hh; exact hh.elim
  | ok d =>
    rw [q] at hh
    unfold gThen at hh
    simp only at hh
    refine fun b o F1 H1 x1 hF hN hH r => ?_
    split at hh
    · rename_i hz
      have st1 := st.ext x1
      have gr1 := gr.ext x1
      have hb : b ∉ a :: bs := fun q => by
        obtain ⟨o2, w⟩ := gr.there q
        rw [hN] at w
        cases w
      refine ⟨a, _, .ref b, rfl, rfl, gr1.obj, by rw [List.length_map, gr.len]; exact hz, ?_⟩
      refine hh a (bs ++ [b]) σ F1 _ (sta_poke st1 (gr1.out a List.mem_cons_self).1 (gr1.out a List.mem_cons_self).2 (gr1.sep a List.mem_cons_self)) (grp_push gr1 hb hF (st.x.sH.free hN) hH r fun k c q1 q2 => ?_) x1.sF
      obtain ⟨b2, o2, h3, _, h4, _⟩ := st.ev.cells k _ q1
      rw [q2] at h3
      cases h3
      rw [hN] at h4
      cases h4
    · exact hh.elim
theorem atI_of2 {α : Type} {xs : List α} {z : Int} {k : Nat} {x : α} (h : ixN xs.length z = some k) (e : xs[k]? = some x) : atI xs z = some x := by
  unfold atI
  rw [h]
  exact e
/-- an item is written -/
theorem grp_set {k : Nat} {b : Addr} {o : HO} {d : D} (gr : Grp K ce i rows a bs Γ σ F H H0) (hk : bs[k]? = some b) (r : ObjRep K ce F b d o) :
    Grp K ce i (rows.set k d) a bs Γ σ F (upd H b o) H0 := by
  have hb : b ∈ bs := List.mem_of_getElem? hk
  have an : a ∉ bs := (List.nodup_cons.mp gr.nod).1
  have na : a ≠ b := fun e => an (e ▸ hb)
  refine ⟨gr.slot, gr.cel, by rw [upd_ne na]; exact gr.obj, gr.nod, by rw [List.length_set]; exact gr.len, fun j c e h1 h2 => ?_, gr.out, gr.sep⟩
  by_cases w : k = j
  · subst w
    rw [hk] at h1
    cases h1
    rw [List.getElem?_set_self (by rw [← gr.len]; exact (List.getElem?_eq_some_iff.mp hk).1)] at h2
    cases h2
    exact ⟨o, upd_same, r⟩
  · rw [List.getElem?_set_ne w] at h2
    obtain ⟨o2, q1, q2⟩ := gr.inn j c e h1 h2
    refine ⟨o2, ?_, q2⟩
    rw [upd_ne]
    · exact q1
    · rintro rfl
      have e1 := List.getElem?_eq_some_iff.mp h1
      have e2 := List.getElem?_eq_some_iff.mp hk
      have nd := (List.nodup_cons.mp gr.nod).2
      obtain ⟨u1, w1⟩ := e1
      obtain ⟨u2, w2⟩ := e2
      rcases Nat.lt_trichotomy k j with q | q | q
      · exact (List.pairwise_iff_getElem.mp nd) k j u2 u1 q (w2.trans w1.symm)
      · exact w q
      · exact (List.pairwise_iff_getElem.mp nd) j k u1 u2 q (w1.trans w2.symm)
theorem grp_get {k : Nat} {d : D} (gr : Grp K ce i rows a bs Γ σ F H H0) (hk : rows[k]? = some d) : ∃ b o, bs[k]? = some b ∧ H b = some o ∧ ObjRep K ce F b d o := by
  have hk2 : k < bs.length := by rw [gr.len]; exact (List.getElem?_eq_some_iff.mp hk).1
  obtain ⟨o, q1, q2⟩ := gr.inn k _ d (List.getElem?_eq_getElem hk2) hk
  exact ⟨_, o, List.getElem?_eq_getElem hk2, q1, q2⟩
theorem gs_appI (z : Int) (x : DenV K ce W te f) : DenGr K ce W i (tDrop (tBM K "list" rAppend (tOp (rIx K) (tVar i) (tC (.int z))) (tCons te tNil))) (gAppI z f) := fun H0 F0 Γ σ F H N rows a bs st gr hh => by
  unfold gAppI at hh
  split at hh
  · rename_i k hk
    split at hh
    · rename_i xs ek
      obtain ⟨b, o, h1, h2, vs, rfl, h3⟩ := grp_get gr ek
      have hb : b ∈ a :: bs := List.mem_cons_of_mem _ (List.mem_of_getElem? h1)
      refine ⟨_, gr.slot, .inl ⟨a, bs.map V.ref, z, .ref b, rfl, rfl, .inl (.of gr.obj), atI_of2 (k := k) (by rw [List.length_map, gr.len]; exact hk) (by rw [List.getElem?_map, h1]; rfl), .inl ⟨rfl, vs, .inl (.of h2)⟩, x Γ σ F H _ st.ev ?_⟩⟩
      cases q : f Γ with
      | exc e => rw [q] at hh; exact W.mono st.x.sH hh
      | stuck => rw [q] at hh; exact hh.elim
      | ok d =>
        rw [q] at hh
        unfold gThen at hh
        simp only at hh
        refine fun v F1 H1 x1 r => ?_
        split at hh
        · rename_i hz
          have st1 := st.ext x1
          have gr1 := gr.ext x1
          refine ⟨b, vs, v, rfl, rfl, x1.sH _ _ h2, by rw [h3.length]; exact hz, ?_⟩
          exact hh a bs σ F1 _ (sta_poke st1 (gr1.out b hb).1 (gr1.out b hb).2 (gr1.sep b hb)) (grp_set gr1 h1 ⟨_, rfl, (Reps.mono x1.sF _ _ h3).app (.cons r .nil)⟩) x1.sF
        · exact hh.elim
    · exact hh.elim
  · exact hh.elim
theorem gs_setI (z : Int) (x : DenV K ce W te f) (y : DenB K ce W ti fi) : DenGr K ce W i (tAsg te (gSub (tOp (rIx K) (tVar i) (tC (.int z))) ti rSetL)) (gSetI z fi f) := fun H0 F0 Γ σ F H N rows a bs st gr hh => by
  refine x Γ σ F H _ st.ev ?_
  unfold gSetI at hh
  cases q : f Γ with
  | exc e => rw [q] at hh; exact W.mono st.x.sH hh
  | stuck => rw [q] at hh; exact hh.elim
  | ok d =>
    rw [q] at hh
    refine fun v F1 H1 x1 r => ?_
    have st1 := st.ext x1
    have gr1 := gr.ext x1
    have hh := GOk.mono x1.sF hh
    unfold gThen at hh
    simp only at hh
    split at hh
    · rename_i k hk
      split at hh
      · rename_i xs ek
        obtain ⟨b, o, h1, h2, vs, rfl, h3⟩ := grp_get gr1 ek
        have hb : b ∈ a :: bs := List.mem_cons_of_mem _ (List.mem_of_getElem? h1)
        refine ⟨_, gr1.slot, .inl ⟨a, bs.map V.ref, z, .ref b, rfl, rfl, .inl (.of gr1.obj), atI_of2 (k := k) (by rw [List.length_map, gr.len]; exact hk) (by rw [List.getElem?_map, h1]; rfl), y Γ σ F1 H1 _ st1.ev ?_⟩⟩
        cases w : fi Γ with
        | exc e => rw [w] at hh; exact W.mono st1.x.sH hh
        | stuck => rw [w] at hh; exact hh.elim
        | ok e =>
          rw [w] at hh
          simp only at hh
          refine fun u F2 H2 x2 r2 => ?_
          split at hh
          · rename_i m
            split at hh
            · rename_i j ej
              cases r2
              have st2 := st1.ext x2
              have gr2 := gr1.ext x2
              refine ⟨b, vs, m, j, rfl, rfl, x2.sH _ _ h2, by rw [h3.length]; exact ej, ?_⟩
              exact hh a bs σ F2 _ (sta_poke st2 (gr2.out b hb).1 (gr2.out b hb).2 (gr2.sep b hb)) (grp_set gr2 h1 ⟨_, rfl, (Reps.mono x2.sF _ _ h3).set _ (Rep.mono x2.sF _ _ r)⟩) x2.sF
            · exact hh.elim
          · exact hh.elim
      · exact hh.elim
    · exact hh.elim
theorem reps_of : ∀ {rows : List D} {bs : List Addr}, bs.length = rows.length → (∀ (k : Nat) (b : Addr) (d : D), bs[k]? = some b → rows[k]? = some d → Rep K ce F d (.ref b)) → Reps K ce F rows (bs.map V.ref)
  | [], [], _, _ => .nil
  | d :: rows, b :: bs, hl, h => .cons (h 0 b d rfl rfl) (reps_of (by simpa using hl) fun k b' d' h1 h2 => h (k + 1) b' d' (by simpa using h1) (by simpa using h2))
  | [], _ :: _, hl, _ => by simp at hl
  | _ :: _, [], hl, _ => by simp at hl
theorem gs_end {s : SFn} (x : DenS K ce W none t s) : DenGr K ce W i t (gEnd i s) := fun H0 F0 Γ σ F H N rows a bs st gr hh => by
  have hh := only_ok hh
  let F' : Hp := fun b => if b ∈ bs then H b else F b
  have an : a ∉ bs := (List.nodup_cons.mp gr.nod).1
  have e1 : ∀ b, b ∈ bs → F' b = H b := fun b hb => if_pos hb
  have e2 : ∀ b, b ∉ bs → F' b = F b := fun b hb => if_neg hb
  have s1 : Same F F' := fun b o e => by
    by_cases hb : b ∈ bs
    · rw [(gr.out b (List.mem_cons_of_mem _ hb)).1] at e; cases e
    · rw [e2 b hb]; exact e
  have s2 : Same F' H := fun b o e => by
    by_cases hb : b ∈ bs
    · rw [e1 b hb] at e; exact e
    · rw [e2 b hb] at e; exact st.ev.sub _ _ e
  have st1 : Sta K ce none none H0 F0 Γ σ F' H := by
    refine ⟨⟨s2, fun j c q => ?_, st.ev.len⟩, ⟨st.x.sF.trans s1, st.x.sH, s2, fun b h1 h2 => ?_⟩, st.own, st.sep, st.bor, st.slf⟩
    · have p := st.ev.cells j c q
      cases c with
      | no => trivial
      | val d2 => obtain ⟨v, p1, p2⟩ := p; exact ⟨v, p1, Rep.mono s1 _ _ p2⟩
      | own d2 =>
        obtain ⟨b, o2, p1, p2, p3, p4⟩ := p
        refine ⟨b, o2, p1, ?_, p3, ObjRep.mono s1 _ _ p4⟩
        rw [e2]
        · exact p2
        · exact fun hb => gr.sep b (List.mem_cons_of_mem _ hb) j d2 q p1
      | bor d2 => obtain ⟨v, p1, p2⟩ := p; exact ⟨v, p1, BRep.mono s1 (.refl _) _ _ p2⟩
    · by_cases hb : b ∈ bs
      · exact (gr.out b (List.mem_cons_of_mem _ hb)).2
      · rw [e2 b hb] at h2; exact st.x.new b h1 h2
  have hsi : σ.set i (some (.ref a)) = σ := by
    refine List.ext_getElem? fun k => ?_
    by_cases w : i = k
    · subst w
      rw [List.getElem?_set_self (List.getElem?_eq_some_iff.mp gr.slot).1, gr.slot]
    · rw [List.getElem?_set_ne w]
  have st2 := Sta.setO (z := none) (i := i) (d := .lst rows) (F := F') (fun q => nomatch q) st1 (by rw [e2 a an]; exact (gr.out a List.mem_cons_self).1) gr.obj (gr.out a List.mem_cons_self).2 (fun j e q1 q2 => gr.sep a List.mem_cons_self j e q1) ⟨_, rfl, reps_of gr.len fun k b d h1 h2 => by
    obtain ⟨o, q1, q2⟩ := gr.inn k b d h1 h2
    exact (ObjRep.mono s1 _ _ q2).r (by rw [e1 b (List.mem_of_getElem? h1)]; exact q1)⟩
  rw [hsi] at st2
  exact x none H0 F0 _ σ F' H N st2 (OutOk.mono s1 hh)
theorem dfl_nil : DenFL K ce W tNil aNil := fun Γ σ F H Q ev h => h [] F H (.refl ev.sub) .nil rfl (fun k b d q => by simp at q) (fun b hb => by simp at hb)
theorem dfl_cons (x : DenF K ce W te f) (y : DenFL K ce W tA fs) : DenFL K ce W (tCons te tA) (aCons f fs) := fun Γ σ F H Q ev h => by
  refine x Γ σ F H _ ev (Res.wp_mono (Res.wp_bind h) (fun _ z => z) fun d _ h2 b o F1 H1 x1 hF hN hH r => ?_)
  refine y Γ σ F1 H1 _ (ev.ext x1) (Res.wp_mono (Res.wp_bind h2) (fun e z => W.mono x1.sH z) fun ds _ h4 bs F2 H2 x2 nd hl hi ho => ?_)
  obtain ⟨q1, q2⟩ := ext_own x2 hF hH
  refine h4 (b :: bs) F2 H2 (x1.trans x2) (List.nodup_cons.mpr ⟨fun hb => ?_, nd⟩) (by simp [hl]) (fun k c e h1 h2 => ?_) fun c hc => ?_
  · have := (ho b hb).2
    rw [hH] at this
    cases this
  · cases k with
    | zero => cases h1; cases h2; exact ⟨o, q2, ObjRep.mono x2.sF _ _ r⟩
    | succ k => exact hi k c e (by simpa using h1) (by simpa using h2)
  · rcases List.mem_cons.mp hc with rfl | hc
    · exact ⟨q1, hN⟩
    · exact ⟨(ho c hc).1, x1.sH.free (ho c hc).2⟩
theorem ds_grp (i : Nat) (x : DenFL K ce W tA fs) (y : DenGr K ce W i t g) : DenS K ce W none (tSeq (tAsg (tLst tA) (gName i)) t) (sGrp i fs g) := fun s0 H0 F0 Γ σ F H N st hh => by
  have hst : Sta K ce none none H0 F0 Γ σ F H := ⟨st.ev, st.x, st.own, st.sep, st.bor, fun k q => nomatch q⟩
  refine x Γ σ F H _ st.ev (Res.wp_mono (out_wp st hh) (fun _ z => z) fun ds _ k bs F1 H1 x1 nd hl hi ho => ?_)
  split at k
  · rename_i hz
    refine ⟨by rw [List.length_map, hl]; exact hz.1, fun p hp => ?_⟩
    have st1 := hst.ext x1
    have x2 : Ext F1 H1 F1 (upd H1 p (.lst (bs.map V.ref))) := .laid x1.sub hp
    have st2 := Sta.setE (z := none) (i := i) (v := some (.ref p)) (fun q => nomatch q) (st1.ext x2)
    have np : p ∉ bs := fun hb => by
      obtain ⟨k, hk⟩ := List.getElem?_of_mem hb
      have hk2 : k < ds.length := by rw [← hl]; exact (List.getElem?_eq_some_iff.mp hk).1
      obtain ⟨o, q, _⟩ := hi k p _ hk (List.getElem?_eq_getElem hk2)
      rw [hp] at q
      cases q
    have hil : i < σ.length := by rw [← st.ev.len]; exact hz.2
    refine y H0 F0 (Γ.set i .no) (σ.set i (some (.ref p))) F1 _ N ds p bs st2 ⟨List.getElem?_set_self hil, List.getElem?_set_self hz.2, upd_same, List.nodup_cons.mpr ⟨np, nd⟩, hl, fun k b d h1 h2 => ?_, fun b hb => ?_, fun b hb j d h1 h2 => ?_⟩ ?_
    · obtain ⟨o, q1, q2⟩ := hi k b d h1 h2
      exact ⟨o, x2.sH _ _ q1, q2⟩
    · rcases List.mem_cons.mp hb with rfl | hb
      · exact ⟨x1.sub.free hp, st.x.sH.free (x1.sH.free hp)⟩
      · exact ⟨(ho b hb).1, st.x.sH.free (ho b hb).2⟩
    · have hj : i ≠ j := fun q => by
        subst q
        rw [List.getElem?_set_self hz.2] at h1
        cases h1
      rw [List.getElem?_set_ne hj] at h1 h2
      obtain ⟨b2, o2, h3, _, h4, _⟩ := st.ev.cells j _ h1
      rw [h2] at h3
      cases h3
      rcases List.mem_cons.mp hb with rfl | hb
      · rw [x1.sH.free hp] at h4; cases h4
      · rw [(ho b hb).2] at h4; cases h4
    · have k := OutOk.mono x1.sF k
      cases q : g (Γ.set i .no) ds with
      | nx Γ' r' => rw [q] at k; exact k.elim
      | out o =>
        rw [q] at k
        show OutOk K ce W none none H0 F0 F1 N (only o)
        have k : OutOk K ce W none s0 H0 F0 F1 N (only o) := k
        cases o <;> first | exact k | exact k.elim
  · exact k.elim
end

/-! ### simp laws -/
@[simp] theorem x_only_rt (d : D) : only (.rt d) = .rt d := id rfl
@[simp] theorem x_only_ro (d : D) : only (.ro d) = .ro d := id rfl
@[simp] theorem x_only_exc (e : Exn) : only (.exc e) = .exc e := id rfl
@[simp] theorem x_gNx (Γ : Slots) (r : List D) : gNx Γ r = .nx Γ r := id rfl
theorem gSeq_nx {g h : GF} {Γ Γ' : Slots} {r r' : List D} (e : g Γ r = .nx Γ' r') : gSeq g h Γ r = h Γ' r' := by unfold gSeq; rw [e]
theorem gSeq_out {g h : GF} {Γ : Slots} {r : List D} {o : Out} (e : g Γ r = .out o) : gSeq g h Γ r = .out (only o) := by unfold gSeq; rw [e]
def gThen2 (x : GO) (h : GF) : GO := match x with
  | .nx Γ' r' => h Γ' r'
  | .out o => .out (only o)
@[simp] theorem x_gSeq (g h : GF) (Γ : Slots) (r : List D) : gSeq g h Γ r = gThen2 (g Γ r) h := id rfl
@[simp] theorem x_gThen2_nx (Γ : Slots) (r : List D) (h : GF) : gThen2 (.nx Γ r) h = h Γ r := id rfl
@[simp] theorem x_gThen2_out (o : Out) (h : GF) : gThen2 (.out o) h = .out (only o) := id rfl
def liftO (i : Nat) (o : Out) (rows : List D) : GO := match o with
  | .nx Γ' => if okG i Γ' = true then .nx Γ' rows else .out .stuck
  | .exc e => .out (.exc e)
  | _ => .out .stuck
@[simp] theorem x_gLift (i : Nat) (g : SFn) (Γ : Slots) (r : List D) : gLift i g Γ r = liftO i (g Γ) r := id rfl
@[simp] theorem x_liftO_nx (i : Nat) (Γ : Slots) (r : List D) : liftO i (.nx Γ) r = if okG i Γ = true then .nx Γ r else .out .stuck := id rfl
@[simp] theorem x_liftO_exc (i : Nat) (e : Exn) (r : List D) : liftO i (.exc e) r = .out (.exc e) := id rfl
@[simp] theorem x_okG (i : Nat) (Γ : Slots) : okG i Γ = ((Γ[i]?.any noC) && Γ.all noB) := id rfl
@[simp] theorem x_noC : noC .no = true := id rfl
@[simp] theorem x_noB_no : noB .no = true := id rfl
@[simp] theorem x_noB_val (d : D) : noB (.val d) = true := id rfl
@[simp] theorem x_noB_own (d : D) : noB (.own d) = true := id rfl
@[simp] theorem x_gThen_ok {α : Type} (x : α) (f : α → GO) : gThen (.ok x) f = f x := id rfl
@[simp] theorem x_gThen_exc {α : Type} (e : Exn) (f : α → GO) : gThen (.exc e : Res α) f = .out (.exc e) := id rfl
@[simp] theorem x_gIf (c : Slots → Res Bool) (g h : GF) (Γ : Slots) (r : List D) : gIf c g h Γ r = gThen (c Γ) fun b => if b = true then g Γ r else h Γ r := id rfl
def wipeGO (is : List Nat) (x : GO) : GO := match x with
  | .nx Γ' r' => .nx (wipeG Γ' is) r'
  | .out o => .out o
@[simp] theorem x_gWipe (is : List Nat) (g : GF) (Γ : Slots) (r : List D) : gWipe is g Γ r = wipeGO is (g Γ r) := id rfl
@[simp] theorem x_wipeGO_nx (is : List Nat) (Γ : Slots) (r : List D) : wipeGO is (.nx Γ r) = .nx (wipeG Γ is) r := id rfl
@[simp] theorem x_wipeGO_out (is : List Nat) (o : Out) : wipeGO is (.out o) = .out o := id rfl
@[simp] theorem x_gFor (its : Slots → Res (List D)) (h : GFn) (body : GF) (Γ : Slots) (r : List D) : gFor its h body Γ r = gThen (its Γ) fun ds => forG h body ds Γ r := id rfl
@[simp] theorem x_gAppF (f : EFn) (Γ : Slots) (r : List D) : gAppF f Γ r = gThen (f Γ) fun d => if r.length < sizeLine then .nx Γ (r ++ [d]) else .out .stuck := id rfl
@[simp] theorem x_gEnd (i : Nat) (g : SFn) (Γ : Slots) (r : List D) : gEnd i g Γ r = .out (g (Γ.set i (.own (.lst r)))) := id rfl
@[simp] theorem x_goOut (o : Out) : goOut (.out o) = only o := id rfl
@[simp] theorem x_sGrp (i : Nat) (fs : Slots → Res (List D)) (g : GF) (Γ : Slots) : sGrp i fs g Γ = thenR (fs Γ) fun ds => if ds.length ≤ sizeLine ∧ i < Γ.length then goOut (g (Γ.set i .no) ds) else .stuck := id rfl
theorem gAppO_ok {j : Nat} {Γ : Slots} {r : List D} {d : D} (h : Γ[j]? = some (.own d)) (hl : r.length < sizeLine) : gAppO j Γ r = .nx (Γ.set j .no) (r ++ [d]) := by unfold gAppO; rw [h]; exact if_pos hl
theorem gAppI_ok {z : Int} {f : EFn} {Γ : Slots} {r xs : List D} {k : Nat} {d : D} (hk : ixN r.length z = some k) (hr : r[k]? = some (.lst xs)) (hf : f Γ = .ok d) (hl : xs.length < sizeLine) : gAppI z f Γ r = .nx Γ (r.set k (.lst (xs ++ [d]))) := by unfold gAppI; rw [hk]; simp only; rw [hr]; simp only; rw [hf]; exact if_pos hl
theorem gSetI_ok {z w : Int} {f fi : EFn} {Γ : Slots} {r xs : List D} {k j : Nat} {d : D} (hk : ixN r.length z = some k) (hr : r[k]? = some (.lst xs)) (hf : f Γ = .ok d) (hi : fi Γ = .ok (.int w)) (hj : ixN xs.length w = some j) : gSetI z fi f Γ r = .nx Γ (r.set k (.lst (xs.set j d))) := by
  unfold gSetI; rw [hf]; simp only [x_gThen_ok]; rw [hk]; simp only; rw [hr]; simp only; rw [hi]; simp only [x_gThen_ok]; rw [hj]
/-- a loop over encoded things -/
theorem forG_run {α : Type} {h : GFn} {body : GF} {enc : α → D} {G : List α → Slots} {R : List α → List D} : ∀ (xs pre : List α), (∀ (p : List α) (x : α) (s : List α), pre ++ xs = p ++ x :: s → pre.length ≤ p.length → ∃ Γ1, h (enc x) (G p) = .ok Γ1 ∧ body Γ1 (R p) = .nx (G (p ++ [x])) (R (p ++ [x]))) →
    forG h body (xs.map enc) (G pre) (R pre) = .nx (G (pre ++ xs)) (R (pre ++ xs))
  | [], pre, _ => by rw [List.append_nil]; rfl
  | x :: xs, pre, hs => by
    obtain ⟨Γ1, h1, h2⟩ := hs pre x xs rfl (Nat.le_refl _)
    rw [List.map_cons]
    unfold forG
    rw [h1]
    simp only
    rw [h2]
    simp only
    rw [forG_run xs (pre ++ [x]) (fun p y s e hl => hs p y s (by rw [← e, List.append_assoc]; rfl) (by rw [List.length_append] at hl; omega)), List.append_assoc]
    rfl
end FL

/-! FLR: t[::-1] of a tuple. -/
namespace FL
open PySem PyProof.Rows HT
section
open PySem.SeqAt
open PySem.MeetsSeq PySem.MeetsSeq2 PySem.MeetsSeq3
variable {prog : Program} {w : World} {A : Around} {E : Value → Shared → Prop} {s : Shared}
theorem adjust_rev (n : Int) : Builtin.Slice.sliceAdjust none none (-1) n = (n - 1, -1) := rfl
theorem places_rev (n : Nat) : Builtin.Slice.slicePlaces ((n : Int) - 1) (-1) (-1) = n := by
  unfold Builtin.Slice.slicePlaces
  have h1 : ¬ (-1 : Int) > 0 := by omega
  have h2 : (-(-1) : Int) = 1 := by omega
  simp only [h1, if_false, h2, Int.ediv_one]
  split <;> omega
theorem fm_map {α β : Type} {f : α → Option β} {g : α → β} : ∀ (l : List α), (∀ x ∈ l, f x = some (g x)) → l.filterMap f = l.map g
  | [], _ => rfl
  | x :: l, h => by
    rw [List.filterMap_cons, h x List.mem_cons_self, List.map_cons, fm_map l fun y hy => h y (List.mem_cons_of_mem _ hy)]
theorem pick_rev (xs : Array Value) : ((List.range xs.size).filterMap fun (m : Nat) => xs[((xs.size : Int) - 1 + (m : Int) * (-1)).toNat]?).toArray = xs.toList.reverse.toArray := by
  congr 1
  rw [fm_map (g := fun m => (xs.toList.reverse[m]?).getD .none) (List.range xs.size) fun m hm => by
    have hm := List.mem_range.mp hm
    have hi : ((xs.size : Int) - 1 + (m : Int) * (-1)).toNat = xs.size - 1 - m := by omega
    rw [hi]
    have h2 : xs.size - 1 - m < xs.size := by omega
    have h3 : m < xs.toList.reverse.length := by simpa using hm
    rw [Array.getElem?_eq_getElem h2, List.getElem?_eq_getElem h3]
    simp [List.getElem_reverse]]
  refine List.ext_getElem (by simp) fun m h1 h2 => ?_
  simp only [List.getElem_map, List.getElem_range]
  rw [List.getElem?_eq_getElem h2]
  rfl
theorem sliceApplied_rev {sl : Addr} {vl vu vs : Value} {n : Nat} {Q : Int × Int × Nat → Shared → Prop} (hs : s.heap.IsSliceOf sl vl vu vs) (pl : IsPart vl none) (pu : IsPart vu none) (ps : IsPart vs (some (-1)))
    (h : Q ((n : Int) - 1, -1, n) s) : wpAny (model prog w) A (Builtin.Slice.sliceApplied (.ref sl) (pure (n : Int))) Q E s := by
  obtain ⟨os, hos, hcs, hds⟩ := id hs
  unfold Builtin.Slice.sliceApplied Builtin.Slice.sliceFields
  refine wpAny_bind (wpAny_bind (wpAny_field hos hds (x := vl) rfl (wpAny_bind (wpAny_field hos hds (x := vu) rfl (wpAny_bind (wpAny_field hos hds (x := vs) rfl (wpAny_pure ?_)))))))
  refine wpAny_bind (slicePart_ ps ?_)
  show wpAny _ _ (if ((-1 : Int) == 0) = true then _ else _) _ _ s
  rw [if_neg (by decide)]
  refine wpAny_bind (slicePart_ pl (wpAny_bind (slicePart_ pu (wpAny_bind (wpAny_pure ?_)))))
  show wpAny _ _ (match Builtin.Slice.sliceAdjust none none (-1) (n : Int) with | (lo, hi) => pure (lo, (-1 : Int), Builtin.Slice.slicePlaces lo hi (-1))) _ _ s
  rw [adjust_rev]
  show wpAny _ _ (pure ((n : Int) - 1, (-1 : Int), Builtin.Slice.slicePlaces ((n : Int) - 1) (-1) (-1))) _ _ s
  rw [places_rev]
  exact wpAny_pure h
theorem getItem_tuple_rev {t sl : Addr} {items : Array Value} {vl vu vs : Value} {Q : Value → Shared → Prop} (ht : IsTup s.heap t items) (hs : s.heap.IsSliceOf sl vl vu vs) (pl : IsPart vl none) (pu : IsPart vu none) (ps : IsPart vs (some (-1)))
    (h : Q (.ref s.heap.objs.size) { s with heap := s.heap.push { cls := .type "tuple", data := .seq items.toList.reverse.toArray } })
    (hsz : items.size ≤ sizeLine) : wpAny (model prog w) A (getItem (.ref t) (.ref sl)) Q E s := by
  have htake : sizeOk (.seq items.toList.reverse.toArray) := by
    show items.toList.reverse.toArray.size ≤ sizeLine
    rw [List.size_toArray, List.length_reverse, Array.length_toList]
    exact hsz
  obtain ⟨os, hos, hcs, hds⟩ := id hs
  have hTs : s.TypeIs (.ref sl) "slice" := ⟨os, hos, hcs⟩
  unfold getItem
  try with_reducible refine wpAny_holding ?_
  first | refine wpAny_bind (wpAny_pure ?_) | skip
  refine wpAny_bind (wpAny_sequenceKey ht.typeIs (by decide) ?_)
  refine wpAny_bind (wpAny_callSpecial?_slot (name := Str.ofString "__getitem__") ht.typeIs PyProof.Rows.slot_tuple_getitem
    (wpAny_call_entry PyProof.Rows.slot_tuple_getitem ht.typeIs entry_tuple_getitem ?_ (args_tuple_getitem _ _)))
  show wpAny _ _ (Builtin.Tuple.tupleItemsOf (.ref t) >>= _) _ _ s
  refine wpAny_bind (tupleItemsOf_ ht ?_)
  refine wpAny_bind (wpAny_typeOf hTs ?_)
  rw [if_pos (by decide)]
  refine wpAny_bind (sliceApplied_rev hs pl pu ps ?_)
  have hno : ¬ ((((items.size : Int) - 1) == 0 && (-1 : Int) == 1 && items.size == items.size) = true) := by
    intro q
    rw [Bool.and_eq_true, Bool.and_eq_true] at q
    have := eq_of_beq q.1.2
    omega
  show wpAny _ _ (if ((((items.size : Int) - 1) == 0 && (-1 : Int) == 1 && items.size == items.size) = true) then _ else _) _ _ s
  rw [if_neg hno, pick_rev]
  first
    | exact wpAny_bind (m := Builtin.Tuple.tupleExact _) (wpAny_newObj_type (wpAny_pure ⟨_, rfl, wpAny_pure h⟩) htake)
    | exact wpAny_bind (m := Builtin.Tuple.tupleExact _) (wpAny_newObj_type (wpAny_bind (wpAny_pure (wpAny_pure ⟨_, rfl, wpAny_pure h⟩))) htake)
    | exact wpAny_bind (wpAny_bind (m := Builtin.Tuple.tupleExact _) (wpAny_newObj_type (wpAny_pure (wpAny_pure ⟨_, rfl, wpAny_pure h⟩)) htake))
    | exact wpAny_bind (wpAny_bind (m := Builtin.Tuple.tupleExact _) (wpAny_newObj_type (wpAny_pure ⟨_, rfl, wpAny_pure h⟩) htake))
end
section
open L2
variable {X : Cx}
def tRevT (K : PySem.W.Frag) (te : TE) : TE := fun σ H Q => te σ H fun x H1 => ∃ a xs, x = .ref a ∧ SqT K H1 a xs ∧ ∀ p, H1 p = none → Q (.ref p) (upd H1 p (.tup xs.reverse))
theorem pe_revT {e : Expr} {te : TE} {k : Nat} {p1 p2 p3 pos : Pos} (he : PE X e te) : PE X (.Subscript e (.Slice none none (some (.UnaryOp .USub (.Constant (.int 1) k p1) p2)) p3) pos) (tRevT X.K te) := by
  refine ⟨fun pins s σ H Q I h => ?_⟩
  refine Subscript_ (thn (he.run pins s σ H _ I h) fun v s1 ⟨x, H1, I1, r1, q1⟩ => ?_)
  obtain ⟨a, xs, ex, hx, q⟩ := q1
  subst ex
  cases r1
  have hst : PO X (some (.UnaryOp .USub (.Constant (.int 1) k p1) p2)) (tPart (tUn (rU fun i => .int (-i)) (tC (.int 1)))) := po_some (pe_un un_neg pe_int)
  refine wpAny_Slice (thn (po_none.run pins s1 σ H1 (fun o H2 => o = none ∧ H2 = H1) I1 ⟨rfl, rfl⟩) fun vl s2 ⟨l, H2, I2, pl, el, e2⟩ => ?_)
  subst el e2
  refine thn (po_none.run pins s2 σ H2 (fun o H3 => o = none ∧ H3 = H2) I2 ⟨rfl, rfl⟩) fun vu s3 ⟨u, H3, I3, pu, eu, e3⟩ => ?_
  subst eu e3
  refine thn (hst.run pins s3 σ H3 (fun o H4 => o = some (-1) ∧ H4 = H3) I3 ⟨1, rfl, -1, rfl, rfl, rfl⟩) fun vs s4 ⟨o, H4, I4, ps, eo, e4⟩ => ?_
  subst eo e4
  have I5 : Inv X pins σ H4 { s4 with heap := s4.heap.push { cls := .type "slice", data := .fields #[vl, vu, vs] } } := I4.kept (t' := s4.toks) fun b ob q => Heap.get?_push_of_some _ q
  obtain ⟨its, r, ht, hz⟩ := I5.tuple hx
  have hlen := r.length
  show wpAny (model X.prog X.w) X.A (subscriptTail e (.Slice none none (some (.UnaryOp .USub (.Constant (.int 1) k p1) p2)) p3) (.ref a) (.ref s4.heap.objs.size)) (EP X pins σ Q) X.xe { s4 with heap := s4.heap.push { cls := .type "slice", data := .fields #[vl, vu, vs] } }
  refine tail_any (ops := [.ref a, .ref s4.heap.objs.size]) ht.typeIs (PyProof.Rows.slot_tuple_getitem.lookup) ?_ (by with_unfolding_all rfl)
  refine getItem_tuple_rev ht (Heap.IsSliceOf.new _ vl vu vs) pl pu ps ?_ (by rw [List.size_toArray]; omega)
  refine ⟨.ref _, _, I5.laid (t' := s4.toks) (o := .tup xs.reverse) (fun b ob q => Heap.get?_push_of_some _ q) (Nat.le_refl _) ?_, rfl, q _ (I5.hok.fresh (Nat.le_refl _))⟩
  exact ⟨by rw [List.length_reverse]; exact hz, _, r.reverse, IsTup.new _ _⟩
end
section
open PySem.Spec L2
variable {K : PySem.W.Frag} {ce : CE} {W : Wish} {ta : TE} {f : EFn}
def revT : D → Res D
  | .tup xs => .ok (.tup xs.reverse)
  | _ => .stuck
theorem den_revT (x : DenB K ce W ta f) : DenF K ce W (tRevT K ta) (e1 revT f) := fun Γ σ F H Q ev h => by
  refine x Γ σ F H _ ev (Res.wp_mono (Res.wp_bind h) (fun _ z => z) fun d _ k v F3 H3 e r3 => ?_)
  unfold revT at k
  split at k
  · obtain ⟨a, vs, rfl, ha, hv⟩ := r3
    exact ⟨a, vs, rfl, .inl (.of ha), fun p hp => k p _ F3 _ (e.trans (.laid e.sub hp)) (e.sub.free hp) (e.sH.free hp) upd_same ⟨_, rfl, hv.rev⟩⟩
  · exact k.elim
@[simp] theorem x_revT (xs : List D) : revT (.tup xs) = .ok (.tup xs.reverse) := id rfl
end
section
open PySem.Spec L2
variable {X : Cx} {ta : TA}
/-- tuple(range(i, j, -1)) -/
def dnV (a b : Int) : List V := (List.range (a - b).toNat).map fun i => V.int (a - (i : Nat))
def DnOk (a b : Int) : Prop := -(2 ^ 62) ≤ a ∧ a < 2 ^ 62 ∧ -(2 ^ 62) ≤ b ∧ b < 2 ^ 62 ∧ (a - b).toNat ≤ 2 ^ 24
instance (a b : Int) : Decidable (DnOk a b) := by unfold DnOk; infer_instance
theorem dnV_length (a b : Int) : (dnV a b).length = (a - b).toNat := by unfold dnV; rw [List.length_map, List.length_range]
theorem vals_dn {a b : Int} {acc : Array Value} (h : ItemsOf (fun i v => ∃ t, v = .int (a + i * (-1)) t) acc (a - b).toNat) : Vals (dnV a b) acc.toList := by
  have e : acc.toList.length = (a - b).toNat := by rw [Array.length_toList]; exact h.1
  unfold dnV
  rw [← e]
  refine vals_of_get acc.toList _ fun j u hj => ?_
  obtain ⟨t, rfl⟩ := h.2 j u (by rw [← hj, Array.getElem?_toList])
  refine ⟨t, ?_⟩
  congr 1
  omega
def PRgD (X : Cx) (e : Expr) (t : L2.St → Hp → (Int → Int → Hp → Prop) → Prop) : Prop :=
  ∀ (pins : List (Addr × Obj)) (s : Shared) (σ : L2.St) (H : Hp) (Q : Int → Int → Hp → Prop), Inv X pins σ H s → t σ H Q →
    wpAny (model X.prog X.w) X.A (eval e X.env) (fun x s' => ∃ r a b t u v H', x = .ref r ∧ IsRange s'.heap r a b (-1) t u v ∧ Inv X pins σ H' s' ∧ Q a b H') X.xe s
def tRgD (ta : TA) : L2.St → Hp → (Int → Int → Hp → Prop) → Prop := fun σ H Q => ta σ H fun vs H1 => ∃ i j, vs = [.int i, .int j, .int (-1)] ∧ Q i j H1
theorem prg_dn {a b c : Expr} {p pos : Pos} (hg : Gl X "range") (hm : X.mg "range" = none) (ha : PA X [a, b, c] ta)
    (hs : starEach [a, b, c] X.env = (false, eval a X.env) :: starEach [b, c] X.env := by rfl) (hpl : (backTo pos (starEach [b, c] X.env)).any (·.1) = false := by rfl) :
    PRgD X (.Call (.Name "range" p) [a, b, c] [] pos) (tRgD ta) := by
  intro pins s σ H Q I h
  refine Call_ (ld_blt I hg hm boot_range (PyProof.Rows.callWith_type1 (thn (ha.run pos pins s σ H _ I h) fun us s1 ⟨vs, H1, I1, r1, q1⟩ => ?_) hs hpl))
  obtain ⟨i, j, e, q⟩ := q1
  subst e
  cases r1 with
  | cons r rr =>
    cases rr with
    | cons r' rr =>
      cases rr with
      | cons r'' rr =>
        cases rr
        obtain ⟨t, rfl⟩ := r
        obtain ⟨t', rfl⟩ := r'
        obtain ⟨t'', rfl⟩ := r''
        refine call_range_3 (by decide) ?_ (.inl (PyProof.noPylong_small (by decide)))
        exact ⟨_, i, j, _, _, _, H1, rfl, IsRange.new _ _ _ _ _ _ _, I1.kept fun b u e => Heap.get?_push_of_some _ e, q⟩
def tTupDn (te : L2.St → Hp → (Int → Int → Hp → Prop) → Prop) : TE := fun σ H Q => te σ H fun a b H1 => DnOk a b ∧ ∀ q, H1 q = none → Q (.ref q) (upd H1 q (.tup (dnV a b)))
theorem pe_tupDn {e : Expr} {te : L2.St → Hp → (Int → Int → Hp → Prop) → Prop} {p pos : Pos} (hc : X.calm = true) (hg : Gl X "tuple") (hm : X.mg "tuple" = none) (he : PRgD X e te) (na : starEach [e] X.env = (false, eval e X.env) :: starEach [] X.env := by rfl) : PE X (.Call (.Name "tuple" p) [e] [] pos) (tTupDn te) := by
  refine ⟨fun pins s σ H Q I h => ?_⟩
  refine Call_ (ld_blt I hg hm boot_tuple (PyProof.Rows.callWith_type1 (args_cons (thn (he pins s σ H _ I h) fun x s1 ⟨r, a, b, t, u, v, H1, ex, hr, I1, ok, q⟩ => args_nil ?_) na) na))
  subst ex
  obtain ⟨b1, b2, b3, b4, b5⟩ := ok
  refine call_tuple_range (n := (a - b).toNat) (I1.ok.hd hc) hr (PySem.W.small_down b1 b2 b3 b4) (PySem.W.rangeSize_downNat a b) b5 fun h' tk acc hk hi => ?_
  have I2 : Inv X pins σ H1 { s1 with heap := h', toks := tk } := I1.kept hk
  refine ⟨.ref h'.objs.size, upd H1 h'.objs.size (.tup (dnV a b)), I2.laid (t' := tk) (fun c o e => Heap.get?_push_of_some _ e) (Nat.le_refl _) (show ObjOk X.prog X.w _ _ _ (.tup (dnV a b)) from ⟨?_, acc.toList, vals_dn hi, ?_⟩), rfl, q _ (I2.hok.fresh (Nat.le_refl _))⟩
  · rw [dnV_length, sizeLine_eq]; omega
  · rw [Array.toArray_toList]; exact IsTup.new _ _
def dnList (a b : Int) : List D := (List.range (a - b).toNat).map fun i : Nat => D.int (a - i)
def tupDn : List D → Res D
  | [.int i, .int j, .int k] => if k = -1 ∧ DnOk i j then .ok (.tup (dnList i j)) else .stuck
  | _ => .stuck
variable {K : PySem.W.Frag} {ce : CE} {W : Wish} {fs : Slots → Res (List D)}
theorem den_tupDn (x : DenA K ce W ta fs) : DenF K ce W (tTupDn (tRgD ta)) (eN tupDn fs) := fun Γ σ F H Q ev h => by
  refine x Γ σ F H _ ev (Res.wp_mono (Res.wp_bind h) (fun _ z => z) fun ds _ k vs F1 H1 x1 r1 => ?_)
  unfold tupDn at k
  split at k
  · rename_i i j m
    split at k
    · rename_i ok
      obtain ⟨rfl, ok⟩ := ok
      obtain ⟨v1, q1, rfl, e1, r1⟩ := r1
      obtain ⟨v2, q2, rfl, e2, r1⟩ := r1
      obtain ⟨v3, q3, rfl, e3, r1⟩ := r1
      cases e1
      cases e2
      cases e3
      cases r1
      refine ⟨_, _, rfl, ok, fun q hq => k q _ F1 _ (x1.trans (.laid x1.sub hq)) (x1.sub.free hq) (x1.sH.free hq) upd_same ⟨_, rfl, ?_⟩⟩
      unfold dnList dnV
      have e : ∀ (i : Int) (l : List Nat), Reps K ce F1 (l.map fun n : Nat => D.int (i - n)) (l.map fun n => V.int (i - (n : Nat))) := fun i l => by
        induction l with
        | nil => exact .nil
        | cons n l ih => exact .cons (by unfold Rep; rfl) ih
      exact e _ _
    · exact k.elim
  · exact k.elim
end
end FL

/-! FLT: own lists within an own list: made by a comprehension, lent to a call, each of them changed in a walk. -/
namespace FL
open PySem PySem.Spec PyProof.Rows L2
/-- a new list of new objects -/
def DenGF (K : PySem.W.Frag) (ce : CE) (W : Wish) (t : TE) (f : EFn) : Prop := ∀ (Γ : Slots) (σ : L2.St) (F H : Hp) (Q : VK), Ev K ce Γ σ F H →
  (f Γ).wp (W.W H) (fun d => ∀ (rows : List D) (a : Addr) (bs : List Addr) (F' H' : Hp), d = .lst rows → Ext F H F' H' → H' a = some (.lst (bs.map V.ref)) → (a :: bs).Nodup → bs.length = rows.length →
    (∀ (k : Nat) (b : Addr) (d : D), bs[k]? = some b → rows[k]? = some d → ∃ o, H' b = some o ∧ ObjRep K ce F' b d o) → (∀ b ∈ a :: bs, F' b = none ∧ H b = none) → Q (.ref a) H') → t σ H Q
section
variable {K : PySem.W.Frag} {ce : CE} {W : Wish} {F H : Hp}
theorem den_lcG {wi : TI} {g : TG} {tt : TT} {te : TE} {vs : List Nat} {its : Slots → Res (List D)} {h : GFn} {p : Slots → Res Bool} {f : EFn} (hi : DenIc K ce W wi its) (hg : DenG K ce vs g h) (ht : DenT K ce .none tt p) (he : DenF K ce .none te f) :
    DenGF K ce W (tLc wi g tt te vs) (eLc vs its h p f) := fun Γ σ F H Q ev hh => by
  refine hi Γ σ F H _ ev (Res.wp_mono (Res.wp_bind hh) (fun _ z => z) fun ds _ k J F1 H1 x1 io => ?_)
  split at k
  rotate_left
  · exact k.elim
  rename_i hz
  split at k
  rotate_left
  · exact k.elim
  rename_i out hout
  intro D hD
  refine ⟨fun i m H' => ∃ (F' : Hp) (acc rest : List FL.D) (bs : List Addr), m = ds.length - i ∧ i ≤ ds.length ∧ Ext F1 H1 F' H' ∧ F' D = none ∧ H' D = some (.lst (bs.map V.ref)) ∧ (D :: bs).Nodup ∧ bs.length = acc.length ∧
      (∀ (k : Nat) (b : Addr) (d : FL.D), bs[k]? = some b → acc[k]? = some d → ∃ o, H' b = some o ∧ ObjRep K ce F' b d o) ∧ (∀ b ∈ bs, F' b = none ∧ H1 b = none) ∧ acc.length ≤ i ∧ lcD h p f (wipeG Γ vs) (ds.drop i) = some rest ∧ acc ++ rest = out,
    ⟨ds.length, F1, [], out, [], by simp, Nat.zero_le _, .laid x1.sub hD, x1.sub.free hD, upd_same, by simp, rfl, fun k b d q => by simp at q, fun b hb => by simp at hb, Nat.le_refl _, by rw [List.drop_zero]; exact hout, rfl⟩, ?_⟩
  rintro i m H' ⟨F', acc, rest, bs, rfl, hi', x, hFD, hHD, nd, hbl, inn, hfr, hal, hr, he'⟩
  obtain ⟨go, stop⟩ := io F' H' x.sF x.sub x.sH
  by_cases hlt : i < ds.length
  · have ed : ds[i]? = some ds[i] := List.getElem?_eq_getElem hlt
    obtain ⟨g1, g2⟩ := go i _ ed
    rw [List.drop_eq_getElem_cons hlt] at hr
    unfold lcD at hr
    refine .inr ⟨g1, fun H2 => ∃ (F' : Hp) (acc rest : List FL.D) (bs : List Addr), i + 1 ≤ ds.length ∧ Ext F1 H1 F' H2 ∧ F' D = none ∧ H2 D = some (.lst (bs.map V.ref)) ∧ (D :: bs).Nodup ∧ bs.length = acc.length ∧
      (∀ (k : Nat) (b : Addr) (d : FL.D), bs[k]? = some b → acc[k]? = some d → ∃ o, H2 b = some o ∧ ObjRep K ce F' b d o) ∧ (∀ b ∈ bs, F' b = none ∧ H1 b = none) ∧ acc.length ≤ i + 1 ∧ lcD h p f (wipeG Γ vs) (ds.drop (i + 1)) = some rest ∧ acc ++ rest = out, ?_, fun v H2 hy => ?_⟩
    · rintro H2 ⟨F2, acc, rest, bs, h1, h2, h3, h4, h5, h6, h7, h8, h9, h10, h11⟩
      exact ⟨_, (by omega : ds.length - (i + 1) < ds.length - i), F2, acc, rest, bs, rfl, h1, h2, h3, h4, h5, h6, h7, h8, h9, h10, h11⟩
    · obtain ⟨F2, y2, rd⟩ := g2 v H2 hy
      cases q1 : toO (h ds[i] (wipeG Γ vs)) with
      | none => rw [q1] at hr; cases hr
      | some Γ1 =>
        rw [q1] at hr
        simp only [Option.bind_some] at hr
        refine hg (wipeG Γ vs) (wipe σ vs) F2 H2 v _ _ (((ev.ext x1).ext (x.trans y2)).wipe vs) rd ?_
        rw [toO_some q1]
        refine fun σ1 ev1 u1 => ⟨wipe_eq u1, ?_⟩
        cases q2 : toO (p Γ1) with
        | none => rw [q2] at hr; cases hr
        | some b =>
          rw [q2] at hr
          simp only [Option.bind_some] at hr
          refine ht Γ1 σ1 F2 H2 _ ev1 ?_
          rw [toO_some q2]
          refine fun F3 H3 y3 => ?_
          have y23 := y2.trans y3
          have keep : ∀ {Fa Ha : Hp}, Ext F' H' Fa Ha → Fa D = none ∧ Ha D = some (.lst (bs.map V.ref)) ∧ (∀ (k : Nat) (b : Addr) (d : FL.D), bs[k]? = some b → acc[k]? = some d → ∃ o, Ha b = some o ∧ ObjRep K ce Fa b d o) ∧ (∀ b ∈ bs, Fa b = none ∧ H1 b = none) ∧ ∀ b ∈ bs, ∃ o, Ha b = some o := fun {Fa Ha} z => by
            obtain ⟨k1, k2⟩ := ext_own z hFD hHD
            have there : ∀ b ∈ bs, ∃ o, H' b = some o := fun b hb => by
              obtain ⟨k, hk⟩ := List.getElem?_of_mem hb
              have hk2 : k < acc.length := by rw [← hbl]; exact (List.getElem?_eq_some_iff.mp hk).1
              obtain ⟨o, q, _⟩ := inn k b _ hk (List.getElem?_eq_getElem hk2)
              exact ⟨o, q⟩
            refine ⟨k1, k2, fun k b d h1 h2 => ?_, fun b hb => ?_, fun b hb => ?_⟩
            · obtain ⟨o, q1, q2⟩ := inn k b d h1 h2
              exact ⟨o, z.sH _ _ q1, ObjRep.mono z.sF _ _ q2⟩
            · obtain ⟨o, q⟩ := there b hb
              exact ⟨(ext_own z (hfr b hb).1 q).1, (hfr b hb).2⟩
            · obtain ⟨o, q⟩ := there b hb
              exact ⟨o, z.sH _ _ q⟩
          cases b with
          | false =>
            rw [if_neg Bool.false_ne_true] at hr ⊢
            obtain ⟨k1, k2, k3, k4, _⟩ := keep y23
            exact ⟨F3, acc, rest, bs, hlt, x.trans y23, k1, k2, nd, hbl, k3, k4, by omega, hr, he'⟩
          | true =>
            rw [if_pos rfl] at hr ⊢
            cases q3 : toO (f Γ1) with
            | none => rw [q3] at hr; cases hr
            | some y =>
              rw [q3] at hr
              simp only [Option.bind_some] at hr
              refine he Γ1 σ1 F3 H3 _ (ev1.ext y3) ?_
              rw [toO_some q3]
              refine fun w o F4 H4 y4 hFw hNw hHw rw_ => ?_
              have y24 := y23.trans y4
              obtain ⟨k1, k2, k3, k4, k5⟩ := keep y24
              obtain ⟨_, k2', _, _, k5'⟩ := keep y23
              have hal' : (bs.map V.ref).length < sizeLine := by rw [List.length_map, hbl]; omega
              have wD : w ≠ D := fun e => by
                subst e
                rw [hNw] at k2'
                cases k2'
              have wb : w ∉ bs := fun e => by
                obtain ⟨o2, q⟩ := k5' w e
                rw [hNw] at q
                cases q
              have hN1 : H1 w = none := (x.trans y23).sH.free hNw
              refine ⟨_, k2, hal', ?_⟩
              cases q4 : lcD h p f (wipeG Γ vs) (ds.drop (i + 1)) with
              | none => rw [q4] at hr; cases hr
              | some rest' =>
                rw [q4] at hr
                simp only [Option.map_some, Option.some.injEq] at hr
                subst hr
                have xx := x.trans y24
                have nd2 := List.nodup_cons.mp nd
                refine ⟨F4, acc ++ [y], rest', bs ++ [w], hlt, ⟨xx.sF, fun b o e => ?_, fun b o e => ?_, xx.new⟩, k1, by rw [upd_same, List.map_append]; rfl, List.nodup_cons.mpr ⟨fun q => ?_, List.nodup_append.mpr ⟨nd2.2, by simp, fun u hu z hz => ?_⟩⟩, by simp [hbl], fun k b d h1 h2 => ?_, fun b hb => ?_, by rw [List.length_append, List.length_singleton]; omega, rfl, by rw [List.append_assoc]; exact he'⟩
                · rw [upd_ne (ne_of_none e hD)]
                  exact xx.sH _ _ e
                · rw [upd_ne (ne_of_none e k1)]
                  exact xx.sub _ _ e
                · rcases List.mem_append.mp q with q | q
                  · exact nd2.1 q
                  · exact wD (List.mem_singleton.mp q).symm
                · rw [List.mem_singleton] at hz
                  subst hz
                  exact fun e => wb (e ▸ hu)
                · rcases Nat.lt_or_ge k bs.length with hk | hk
                  · rw [List.getElem?_append_left hk] at h1
                    rw [List.getElem?_append_left (by rw [← hbl]; exact hk)] at h2
                    obtain ⟨o2, p1, p2⟩ := k3 k b d h1 h2
                    refine ⟨o2, ?_, p2⟩
                    rw [upd_ne]
                    · exact p1
                    · rintro rfl
                      exact nd2.1 (List.mem_of_getElem? h1)
                  · rw [List.getElem?_append_right hk] at h1
                    rw [List.getElem?_append_right (by rw [← hbl]; exact hk), ← hbl] at h2
                    have h3 : k - bs.length = 0 := by
                      rcases Nat.eq_zero_or_pos (k - bs.length) with q | q
                      · exact q
                      · rw [List.getElem?_eq_none (by simp; omega)] at h1; cases h1
                    rw [h3] at h1 h2
                    cases h1
                    cases h2
                    exact ⟨o, by rw [upd_ne wD]; exact hHw, rw_⟩
                · rcases List.mem_append.mp hb with q | q
                  · exact k4 b q
                  · rw [List.mem_singleton.mp q]
                    exact ⟨hFw, hN1⟩
  · have e : i = ds.length := by omega
    subst e
    rw [List.drop_length] at hr
    cases hr
    rw [List.append_nil] at he'
    subst he'
    refine .inl ⟨stop, k acc D bs F' H' rfl (x1.trans x) hHD nd hbl inn fun b hb => ?_⟩
    rcases List.mem_cons.mp hb with rfl | hb
    · exact ⟨hFD, x1.sH.free hD⟩
    · exact ⟨(hfr b hb).1, x1.sH.free (hfr b hb).2⟩
end
end FL

/-! FLU: .. its begin in a parallel assignment, a call that it is lent to, a walk that changes each of the inner lists. -/
namespace FL
open PySem PySem.Spec PyProof.Rows L2
mutual
/-- data without lists and dicts -/
def noL : D → Bool
  | .non => true
  | .bl _ => true
  | .int _ => true
  | .str _ => true
  | .ty _ => true
  | .tup ds => noLs ds
  | .ins _ ds => noLs ds
  | .lst _ => false
  | .scr _ => false
  | .dI _ => false
  | .dS _ => false
  | .dT _ => false
  | .dN _ => false
def noLs : List D → Bool
  | [] => true
  | d :: ds => noL d && noLs ds
end
def isLs : D → Bool
  | .lst _ => true
  | _ => false
section
variable {K : PySem.W.Frag} {ce : CE} {F F' : Hp} {bs : List Addr}
mutual
theorem Rep.thaw (hb : ∀ b ∈ bs, ∃ vs, F b = some (.lst vs)) (hF : ∀ b, b ∉ bs → F' b = F b) : ∀ (d : D) (v : V), noL d = true → Rep K ce F d v → Rep K ce F' d v
  | .non, v, _, h => by unfold Rep at h ⊢; exact h
  | .bl b, v, _, h => by unfold Rep at h ⊢; exact h
  | .int i, v, _, h => by unfold Rep at h ⊢; exact h
  | .str x, v, _, h => by unfold Rep at h ⊢; exact h
  | .ty x, v, _, h => by unfold Rep at h ⊢; exact h
  | .tup ds, v, n, h => by
    unfold noL at n
    unfold Rep at h ⊢
    obtain ⟨a, vs, e, h1, h2⟩ := h
    refine ⟨a, vs, e, ?_, Reps.thaw hb hF ds vs n h2⟩
    rw [hF]
    · exact h1
    · intro q
      obtain ⟨ws, w⟩ := hb a q
      rw [h1] at w
      cases w
  | .ins c ds, v, n, h => by
    unfold noL at n
    unfold Rep at h ⊢
    obtain ⟨a, C, dx, ns, vs, e, e2, h1, hl, h2⟩ := h
    refine ⟨a, C, dx, ns, vs, e, e2, ?_, hl, Reps.thaw hb hF ds vs n h2⟩
    rw [hF]
    · exact h1
    · intro q
      obtain ⟨ws, w⟩ := hb a q
      rw [h1] at w
      cases w
  | .lst _, v, n, h => by unfold noL at n; cases n
  | .scr _, v, n, h => by unfold noL at n; cases n
  | .dI _, v, n, h => by unfold noL at n; cases n
  | .dS _, v, n, h => by unfold noL at n; cases n
  | .dT _, v, n, h => by unfold noL at n; cases n
  | .dN _, v, n, h => by unfold noL at n; cases n
theorem Reps.thaw (hb : ∀ b ∈ bs, ∃ vs, F b = some (.lst vs)) (hF : ∀ b, b ∉ bs → F' b = F b) : ∀ (ds : List D) (vs : List V), noLs ds = true → Reps K ce F ds vs → Reps K ce F' ds vs
  | [], vs, _, h => by unfold Reps at h ⊢; exact h
  | d :: ds, vs, n, h => by
    unfold noLs at n
    rw [Bool.and_eq_true] at n
    unfold Reps at h ⊢
    obtain ⟨v, r, e, h1, h2⟩ := h
    exact ⟨v, r, e, Rep.thaw hb hF d v n.1 h1, Reps.thaw hb hF ds r n.2 h2⟩
end
end
/-- x = f(.., the list, ..) -/
def gVal (i j : Nat) (f : EFn) : GF := fun Γ rows => gThen (f (Γ.set i (.own (.lst rows)))) fun d => if noL d = true ∧ rows.all isLs = true then .nx (Γ.set j (.val d)) rows else .out .stuck
def appR (e : D) : D → D
  | .lst xs => .lst (xs ++ [e])
  | d => d
def okR : D → Bool
  | .lst xs => decide (xs.length < sizeLine)
  | _ => false
/-- for r in x: r.append(e) -/
def gForR (j : Nat) (f : EFn) : GF := fun Γ rows => match f (Γ.set j .no) with
  | .ok d => if rows.all okR = true ∧ j < Γ.length then .nx (Γ.set j .no) (rows.map (appR d)) else .out .stuck
  | _ => .out .stuck
/-- x, y = a new list of new lists, a new object -/
def sGrpP (i j : Nat) (f f2 : EFn) (g : GF) : SFn := fun Γ => thenR (f Γ) fun d => match d with
  | .lst rows => thenR (f2 Γ) fun d2 => if i < Γ.length ∧ i ≠ j then goOut (g ((Γ.set i .no).set j (.own d2)) rows) else .stuck
  | _ => .stuck
section
variable {K : PySem.W.Frag} {ce : CE} {W : Wish} {i : Nat} {H0 F0 F H : Hp} {Γ : Slots} {σ : L2.St} {N M : Ends} {t u : TS} {g h : GF} {te te2 ti : TE} {tA : TA} {f f2 fi : EFn} {rows : List D} {a : Addr} {bs : List Addr}
theorem gs_val (i j : Nat) (x : DenV K ce W te f) (hij : i ≠ j := by decide) : DenGr K ce W i (tAsg te (gName j)) (gVal i j f) := fun H0 F0 Γ σ F H N rows a bs st gr hh => by
  let F1 : Hp := fun b => if b ∈ bs then H b else F b
  have an : a ∉ bs := (List.nodup_cons.mp gr.nod).1
  have e1 : ∀ b, b ∈ bs → F1 b = H b := fun b hb => if_pos hb
  have e2 : ∀ b, b ∉ bs → F1 b = F b := fun b hb => if_neg hb
  have s1 : Same F F1 := fun b o e => by
    by_cases hb : b ∈ bs
    · rw [(gr.out b (List.mem_cons_of_mem _ hb)).1] at e; cases e
    · rw [e2 b hb]; exact e
  have s2 : Same F1 H := fun b o e => by
    by_cases hb : b ∈ bs
    · rw [e1 b hb] at e; exact e
    · rw [e2 b hb] at e; exact st.ev.sub _ _ e
  have il : i < Γ.length := (List.getElem?_eq_some_iff.mp gr.cel).1
  have ev1 : Ev K ce (Γ.set i (.own (.lst rows))) σ F1 H := by
    refine ⟨s2, fun k c q => ?_, by rw [List.length_set]; exact st.ev.len⟩
    by_cases hk : i = k
    · subst hk
      rw [List.getElem?_set_self il] at q
      cases q
      refine ⟨a, _, gr.slot, by rw [e2 a an]; exact (gr.out a List.mem_cons_self).1, gr.obj, _, rfl, reps_of gr.len fun k b d h1 h2 => ?_⟩
      obtain ⟨o, q1, q2⟩ := gr.inn k b d h1 h2
      exact (ObjRep.mono s1 _ _ q2).r (by rw [e1 b (List.mem_of_getElem? h1)]; exact q1)
    · rw [List.getElem?_set_ne hk] at q
      have p := st.ev.cells k c q
      cases c with
      | no => trivial
      | val d2 => obtain ⟨v, p1, p2⟩ := p; exact ⟨v, p1, Rep.mono s1 _ _ p2⟩
      | own d2 =>
        obtain ⟨b, o2, p1, p2, p3, p4⟩ := p
        refine ⟨b, o2, p1, ?_, p3, ObjRep.mono s1 _ _ p4⟩
        rw [e2]
        · exact p2
        · exact fun hb => gr.sep b (List.mem_cons_of_mem _ hb) k d2 q p1
      | bor d2 => obtain ⟨v, p1, p2⟩ := p; exact ⟨v, p1, BRep.mono s1 (.refl _) _ _ p2⟩
  refine x _ σ F1 H _ ev1 ?_
  unfold gVal at hh
  cases q : f (Γ.set i (.own (.lst rows))) with
  | exc e => rw [q] at hh; exact W.mono st.x.sH hh
  | stuck => rw [q] at hh; exact hh.elim
  | ok d =>
    rw [q] at hh
    unfold gThen at hh
    simp only at hh
    refine fun v F2 H2 x2 r => ?_
    split at hh
    · rename_i hc
      obtain ⟨hn, hl⟩ := hc
      have lst : ∀ b ∈ bs, ∃ vs, F2 b = some (.lst vs) := fun b hb => by
        obtain ⟨k, hk⟩ := List.getElem?_of_mem hb
        have hk2 : k < rows.length := by rw [← gr.len]; exact (List.getElem?_eq_some_iff.mp hk).1
        obtain ⟨o, q1, q2⟩ := gr.inn k b _ hk (List.getElem?_eq_getElem hk2)
        have hr := List.all_eq_true.mp hl _ (List.getElem_mem hk2)
        cases er : rows[k] with
        | lst xs =>
          rw [er] at q2
          obtain ⟨vs, rfl, _⟩ := q2
          exact ⟨vs, x2.sF _ _ (by rw [e1 b hb]; exact q1)⟩
        | _ => rw [er] at hr; cases hr
      let F3 : Hp := fun b => if b ∈ bs then none else F2 b
      have f1 : ∀ b, b ∈ bs → F3 b = none := fun b hb => if_pos hb
      have f2 : ∀ b, b ∉ bs → F3 b = F2 b := fun b hb => if_neg hb
      have x3 : Ext F H F3 H2 := by
        refine ⟨fun b o e => ?_, x2.sH, fun b o e => ?_, fun b h1 h2 => ?_⟩
        · have hb : b ∉ bs := fun hb => by
            rw [(gr.out b (List.mem_cons_of_mem _ hb)).1] at e; cases e
          rw [f2 b hb]
          exact x2.sF _ _ (s1 _ _ e)
        · by_cases hb : b ∈ bs
          · rw [f1 b hb] at e; cases e
          · rw [f2 b hb] at e; exact x2.sub _ _ e
        · by_cases hb : b ∈ bs
          · exact (h2 (f1 b hb)).elim
          · rw [f2 b hb] at h2
            exact x2.new b (by rw [e2 b hb]; exact h1) h2
      have r3 := Rep.thaw lst f2 d v hn r
      have st3 := Sta.setV (z := none) (i := j) (fun q => nomatch q) (st.ext x3) r3
      have gr3 := gr.ext x3
      refine hh a bs _ F3 H2 st3 ⟨by rw [List.getElem?_set_ne (Ne.symm hij)]; exact gr3.slot, by rw [List.getElem?_set_ne (Ne.symm hij)]; exact gr3.cel, gr3.obj, gr3.nod, gr3.len, gr3.inn, gr3.out, fun b hb k d2 h1 h2 => ?_⟩ x3.sF
      by_cases hk : j = k
      · subst hk
        by_cases hl2 : j < Γ.length
        · rw [List.getElem?_set_self hl2] at h1; cases h1
        · rw [List.getElem?_eq_none (by simpa using hl2)] at h1; cases h1
      · rw [List.getElem?_set_ne hk] at h1 h2
        exact gr3.sep b hb k d2 h1 h2
    · exact hh.elim
theorem map_take_get {α : Type} (φ : α → α) (l : List α) (n : Nat) (hn : n < l.length) : ((l.take n).map φ ++ l.drop n)[n]? = some l[n] := by
  rw [List.getElem?_append_right (by simp; omega), List.getElem?_drop]
  simp
  rw [Nat.min_eq_left (by omega)]
  have : n + (n - n) = n := by omega
  rw [this, List.getElem?_eq_getElem hn]
theorem map_take_set {α : Type} (φ : α → α) (l : List α) (n : Nat) (hn : n < l.length) : ((l.take n).map φ ++ l.drop n).set n (φ l[n]) = (l.take (n + 1)).map φ ++ l.drop (n + 1) := by
  rw [List.set_append_right _ _ (by simp; omega)]
  have e : n - ((l.take n).map φ).length = 0 := by simp; omega
  have e2 : l.take (n + 1) = l.take n ++ [l[n]] := by rw [List.take_add_one, List.getElem?_eq_getElem hn]; rfl
  rw [e, List.drop_eq_getElem_cons hn, List.set_cons_zero, e2, List.map_append, List.append_assoc]
  rfl
theorem gs_forR (i j : Nat) (x : DenV K ce W te f) (hij : i ≠ j := by decide) : DenGr K ce W i (tFor (iSeq K (tVar i)) (gName j) (tDrop (tBM K "list" rAppend (tVar j) (tCons te tNil)))) (gForR j f) := fun H0 F0 Γ σ F H N rows a bs st gr hh => by
  unfold gForR at hh
  cases q : f (Γ.set j .no) with
  | exc e => rw [q] at hh; exact hh.elim
  | stuck => rw [q] at hh; exact hh.elim
  | ok d =>
    rw [q] at hh
    simp only at hh
    split at hh
    rotate_left
    · exact hh.elim
    rename_i hc
    obtain ⟨hc, hj⟩ := hc
    have st0 : Sta K ce none none H0 F0 (Γ.set j .no) σ F H := st.wipe [j]
    have key : ∀ (k : Nat) (c : D), (Γ.set j .no)[k]? = some (.own c) → Γ[k]? = some (.own c) ∧ j ≠ k := fun k c q => by
      by_cases w : j = k
      · subst w
        rw [List.getElem?_set_self hj] at q
        cases q
      · rw [List.getElem?_set_ne w] at q
        exact ⟨q, w⟩
    have gr0 : Grp K ce i rows a bs (Γ.set j .no) σ F H H0 := ⟨gr.slot, by rw [List.getElem?_set_ne (Ne.symm hij)]; exact gr.cel, gr.obj, gr.nod, gr.len, gr.inn, gr.out, fun b hb k c h1 h2 => gr.sep b hb k c (key k c h1).1 h2⟩
    refine ⟨.ref a, gr.slot, a, rfl, .inl ⟨⟨_, .of gr.obj⟩, ?_⟩⟩
    refine ⟨fun n m σ' H' => ∃ F', m = bs.length - n ∧ n ≤ bs.length ∧ Sta K ce none none H0 F0 (Γ.set j .no) σ' F' H' ∧ Grp K ce i ((rows.take n).map (appR d) ++ rows.drop n) a bs (Γ.set j .no) σ' F' H' H0 ∧ Same F F', ⟨_, F, rfl, Nat.zero_le _, st0, by simpa using gr0, .refl _⟩, ?_⟩
    rintro n m σ' H' ⟨F', rfl, hn, st', gr', s'⟩
    by_cases hlt : n < bs.length
    · have hr : n < rows.length := by rw [← gr.len]; exact hlt
      refine .inr ⟨⟨_, _, .of gr'.obj, by rw [List.getElem?_map, List.getElem?_eq_getElem hlt]; rfl⟩, fun σ2 H2 => ∃ F', Sta K ce none none H0 F0 (Γ.set j .no) σ2 F' H2 ∧ Grp K ce i ((rows.take (n + 1)).map (appR d) ++ rows.drop (n + 1)) a bs (Γ.set j .no) σ2 F' H2 H0 ∧ Same F F', ?_, fun v H2 hy => ?_⟩
      · rintro σ2 H2 ⟨F2, h1, h2, h3⟩
        exact ⟨bs.length - (n + 1), by omega, F2, rfl, hlt, h1, h2, h3⟩
      · obtain ⟨rfl, hy⟩ := hy
        have hv := hy _ (.of gr'.obj)
        rw [List.getElem?_map, List.getElem?_eq_getElem hlt] at hv
        have hv : V.ref bs[n] = v := by simpa using hv
        subst hv
        have ss : (Γ.set j .no).set j .no = Γ.set j .no := by rw [List.set_set]
        have hjs : j < σ'.length := by rw [← st'.ev.len, List.length_set]; exact hj
        have st1 : Sta K ce none none H0 F0 (Γ.set j .no) (σ'.set j (some (.ref bs[n]))) F' H2 := by
          have w := Sta.setE (z := none) (i := j) (v := some (.ref bs[n])) (fun q => nomatch q) st'
          rw [ss] at w
          exact w
        have gr1 : Grp K ce i ((rows.take n).map (appR d) ++ rows.drop n) a bs (Γ.set j .no) (σ'.set j (some (.ref bs[n]))) F' H2 H0 := ⟨by rw [List.getElem?_set_ne (Ne.symm hij)]; exact gr'.slot, gr'.cel, gr'.obj, gr'.nod, gr'.len, gr'.inn, gr'.out, fun b hb k c h1 h2 => gr'.sep b hb k c h1 (by rw [List.getElem?_set_ne (key k c h1).2] at h2; exact h2)⟩
        have hn2 := map_take_get (appR d) rows n hr
        obtain ⟨o, p1, p2⟩ := gr1.inn n bs[n] _ (List.getElem?_eq_getElem hlt) hn2
        have hok := List.all_eq_true.mp hc _ (List.getElem_mem hr)
        have hbn : bs[n] ∈ a :: bs := List.mem_cons_of_mem _ (List.getElem_mem hlt)
        cases er : rows[n] with
        | lst xs =>
          rw [er] at p2 hok
          obtain ⟨vs, rfl, h3⟩ := p2
          have hz : xs.length < sizeLine := by simpa [okR] using hok
          refine ⟨_, List.getElem?_set_self hjs, .inl ⟨rfl, vs, .of p1⟩, x _ _ _ _ _ st1.ev ?_⟩
          rw [q]
          refine fun v F1 H1 x1 r => ?_
          refine ⟨bs[n], vs, v, rfl, rfl, x1.sH _ _ p1, by rw [h3.length]; exact hz, ?_⟩
          have st2 := st1.ext x1
          have gr2 := gr1.ext x1
          refine ⟨F1, sta_poke st2 (gr2.out _ hbn).1 (gr2.out _ hbn).2 (gr2.sep _ hbn), ?_, s'.trans x1.sF⟩
          have w := grp_set (d := appR d rows[n]) gr2 (List.getElem?_eq_getElem hlt) (by rw [er]; exact ⟨_, rfl, (Reps.mono x1.sF _ _ h3).app (.cons r .nil)⟩)
          rw [map_take_set _ _ _ hr] at w
          exact w
        | _ => rw [er] at hok; cases hok
    · have e : n = bs.length := by omega
      subst e
      rw [gr.len, List.take_length, List.drop_length, List.append_nil] at gr'
      exact .inl ⟨⟨_, .of gr'.obj, by rw [List.length_map]; exact Nat.le_refl _⟩, hh a bs σ' F' H' st' gr' s'⟩
theorem ds_grpP (i j : Nat) (x : DenGF K ce W te f) (y : DenF K ce W te2 f2) (w : DenGr K ce W i t g) : DenS K ce W none (tSeq (tPar i j (tCons te (tCons te2 tNil))) t) (sGrpP i j f f2 g) := fun s0 H0 F0 Γ σ F H N st hh => by
  have hst : Sta K ce none none H0 F0 Γ σ F H := ⟨st.ev, st.x, st.own, st.sep, st.bor, fun k q => nomatch q⟩
  refine x Γ σ F H _ st.ev (Res.wp_mono (out_wp st hh) (fun _ z => z) fun d _ k rows a bs F1 H1 ed x1 ho nd hl hi hf => ?_)
  subst ed
  have st1 := hst.ext x1
  have k := OutOk.mono x1.sF k
  refine y Γ σ F1 H1 _ st1.ev (Res.wp_mono (out_wp (st.ext x1) k) (fun _ z => z) fun d2 _ k b2 o2 F2 H2 x2 hF2 hN2 hH2 r2 => ?_)
  split at k
  · rename_i hz
    obtain ⟨hz, hij⟩ := hz
    have x12 := x1.trans x2
    have there : ∀ b ∈ a :: bs, ∃ o, H1 b = some o := fun b hb => by
      rcases List.mem_cons.mp hb with rfl | hb
      · exact ⟨_, ho⟩
      · obtain ⟨k, hk⟩ := List.getElem?_of_mem hb
        have hk2 : k < rows.length := by rw [← hl]; exact (List.getElem?_eq_some_iff.mp hk).1
        obtain ⟨o, q, _⟩ := hi k b _ hk (List.getElem?_eq_getElem hk2)
        exact ⟨o, q⟩
    have hil : i < σ.length := by rw [← st.ev.len]; exact hz
    have st2 := Sta.setE (z := none) (i := i) (v := some (.ref a)) (fun q => nomatch q) (hst.ext x12)
    have old : ∀ (k : Nat) (e : D) (b : Addr), (Γ.set i .no)[k]? = some (.own e) → (σ.set i (some (.ref a)))[k]? = some (some (.ref b)) → ∃ o, H b = some o := fun k e b h1 h2 => by
      have hk : i ≠ k := fun q => by
        subst q
        rw [List.getElem?_set_self hz] at h1
        cases h1
      rw [List.getElem?_set_ne hk] at h1 h2
      obtain ⟨b', o', h3, _, h4, _⟩ := st.ev.cells k _ h1
      rw [h2] at h3
      cases h3
      exact ⟨o', h4⟩
    have nb2 : b2 ∉ a :: bs := fun q => by
      obtain ⟨o, w⟩ := there b2 q
      rw [hN2] at w
      cases w
    have st3 := Sta.setO (z := none) (i := j) (d := d2) (a := b2) (o := o2) (fun q => nomatch q) st2 hF2 hH2 (st.x.sH.free (x1.sH.free hN2)) (fun k e h1 _ h2 => by
      obtain ⟨o, w⟩ := old k e b2 h1 h2
      rw [x1.sH.free hN2] at w
      cases w) r2
    refine ⟨_, _, rfl, ?_⟩
    refine w H0 F0 _ _ F2 H2 N rows a bs st3 ⟨?_, ?_, x2.sH _ _ ho, nd, hl, fun k b d h1 h2 => ?_, fun b hb => ?_, fun b hb k e h1 h2 => ?_⟩ ?_
    · rw [List.getElem?_set_ne (Ne.symm hij)]
      exact List.getElem?_set_self hil
    · rw [List.getElem?_set_ne (Ne.symm hij)]
      exact List.getElem?_set_self hz
    · obtain ⟨o, q1, q2⟩ := hi k b d h1 h2
      exact ⟨o, x2.sH _ _ q1, ObjRep.mono x2.sF _ _ q2⟩
    · obtain ⟨o, q⟩ := there b hb
      exact ⟨(ext_own x2 (hf b hb).1 q).1, st.x.sH.free (hf b hb).2⟩
    · by_cases hk : j = k
      · subst hk
        by_cases hl2 : j < σ.length
        · rw [List.getElem?_set_self (by simpa using hl2)] at h2
          cases h2
          exact nb2 hb
        · rw [List.getElem?_eq_none (by simp; omega)] at h2
          cases h2
      · rw [List.getElem?_set_ne hk] at h1 h2
        obtain ⟨o, w⟩ := old k e b h1 h2
        rw [(hf b hb).2] at w
        cases w
    · have k := OutOk.mono x2.sF k
      cases q : g ((Γ.set i .no).set j (.own d2)) rows with
      | nx Γ' r' => rw [q] at k; exact k.elim
      | out o =>
        rw [q] at k
        show OutOk K ce W none none H0 F0 F2 N (only o)
        have k : OutOk K ce W none s0 H0 F0 F2 N (only o) := k
        cases o <;> first | exact k | exact k.elim
  · exact k.elim
end
/-! ### simp laws -/
@[simp] theorem x_sGrpP (i j : Nat) (f f2 : EFn) (g : GF) (Γ : Slots) : sGrpP i j f f2 g Γ = thenR (f Γ) fun d => match d with
  | .lst rows => thenR (f2 Γ) fun d2 => if i < Γ.length ∧ i ≠ j then goOut (g ((Γ.set i .no).set j (.own d2)) rows) else .stuck
  | _ => .stuck := id rfl
@[simp] theorem x_gVal (i j : Nat) (f : EFn) (Γ : Slots) (rows : List D) : gVal i j f Γ rows = gThen (f (Γ.set i (.own (.lst rows)))) fun d => if noL d = true ∧ rows.all isLs = true then .nx (Γ.set j (.val d)) rows else .out .stuck := id rfl
@[simp] theorem x_gForR (j : Nat) (f : EFn) (Γ : Slots) (rows : List D) : gForR j f Γ rows = match f (Γ.set j .no) with
  | .ok d => if rows.all okR = true ∧ j < Γ.length then .nx (Γ.set j .no) (rows.map (appR d)) else .out .stuck
  | _ => .out .stuck := id rfl
theorem noL_ints (l : List Int) : noLs (l.map D.int) = true := by
  induction l with
  | nil => rfl
  | cons x l ih => simp [noLs, noL, ih]
end FL

/-! FLV: a comprehension whose element changes an own object. -/
namespace FL
open PySem PySem.Spec PyProof.Rows L2
def lcX (h : GFn) (g : XFn) (vs : List Nat) : Slots → List D → Option (List D × Slots)
  | Γ, [] => some ([], Γ)
  | Γ, d :: ds => (toO (h d Γ)).bind fun Γ1 => (toO (g Γ1)).bind fun p => if p.2.all noB = true then (lcX h g vs (wipeG p.2 vs) ds).map fun q => (p.1 :: q.1, q.2) else none
def xLc (vs : List Nat) (its : Slots → Res (List D)) (h : GFn) (g : XFn) : XFn := fun Γ => (its Γ).bind fun ds => if ds.length ≤ sizeLine ∧ Γ.all noB = true then (match lcX h g vs (wipeG Γ vs) ds with
  | some (out, Γ') => .ok (.lst out, Γ')
  | none => .stuck) else .stuck
section
variable {K : PySem.W.Frag} {ce : CE} {W : Wish} {z : Option Nat} {s0 : Option (Option V)} {H0 F0 F H : Hp} {Γ : Slots} {σ : L2.St}
theorem Sta.wipe2 {vs : List Nat} (hv : ∀ k ∈ vs, z ≠ some k) (st : Sta K ce z s0 H0 F0 Γ σ F H) : Sta K ce z s0 H0 F0 (wipeG Γ vs) (L2.wipe σ vs) F H := by
  have key : ∀ (j : Nat) (c : Cel), (wipeG Γ vs)[j]? = some c → c ≠ .no → Γ[j]? = some c ∧ (L2.wipe σ vs)[j]? = σ[j]? := fun j c e n => by
    rcases wipeG_get e with q | ⟨e1, e2⟩
    · exact (n q).elim
    · exact ⟨e1, wipe_out e2⟩
  refine ⟨st.ev.wipe vs, st.x, fun i d a h1 h2 => ?_, fun i j d e a hij h1 h2 h3 h4 => ?_, fun i d h1 => ?_, fun k hk => ?_⟩
  · obtain ⟨q1, q2⟩ := key i _ h1 (fun q => nomatch q)
    exact st.own i d a q1 (q2 ▸ h2)
  · obtain ⟨q1, q2⟩ := key i _ h1 (fun q => nomatch q)
    obtain ⟨q3, q4⟩ := key j _ h2 (fun q => nomatch q)
    exact st.sep i j d e a hij q1 q3 (q2 ▸ h3) (q4 ▸ h4)
  · obtain ⟨q1, q2⟩ := key i _ h1 (fun q => nomatch q)
    rw [q2]
    exact st.bor i d q1
  · rw [wipe_out (fun q => hv k q hk)]
    exact st.slf k hk
/-- the slots as they stand, behind the comprehension -/
theorem Sta.unwipe {vs : List Nat} (hv : ∀ k ∈ vs, z ≠ some k) (hn : ∀ k ∈ vs, ∀ c, Γ[k]? = some c → c = .no) (st : Sta K ce z s0 H0 F0 Γ (L2.wipe σ vs) F H) : Sta K ce z s0 H0 F0 Γ σ F H := by
  have key : ∀ (j : Nat) (c : Cel), Γ[j]? = some c → c ≠ .no → (L2.wipe σ vs)[j]? = σ[j]? := fun j c e n => wipe_out fun q => n (hn j q c e)
  refine ⟨⟨st.ev.sub, fun i c e => ?_, by have := st.ev.len; rw [wipe_length] at this; exact this⟩, st.x, fun i d a h1 h2 => ?_, fun i j d e a hij h1 h2 h3 h4 => ?_, fun i d h1 => ?_, fun k hk => ?_⟩
  · have q := st.ev.cells i c e
    by_cases c0 : c = .no
    · subst c0; trivial
    · rw [key i c e c0] at q
      exact q
  · have q2 := key i _ h1 (fun q => nomatch q)
    exact st.own i d a h1 (q2.trans h2)
  · have q2 := key i _ h1 (fun q => nomatch q)
    have q4 := key j _ h2 (fun q => nomatch q)
    exact st.sep i j d e a hij h1 h2 (q2.trans h3) (q4.trans h4)
  · have q2 := key i _ h1 (fun q => nomatch q)
    obtain ⟨v, q, r⟩ := st.bor i d h1
    exact ⟨v, q2 ▸ q, r⟩
  · have q := st.slf k hk
    rw [wipe_out (fun q => hv k q hk)] at q
    exact q
theorem wipeG_no {vs : List Nat} : ∀ k ∈ vs, ∀ c, (wipeG Γ vs)[k]? = some c → c = .no := fun k hk c e => by
  rcases wipeG_get e with q | ⟨_, q⟩
  · exact q
  · exact (q hk).elim
/-- an object is put among those that were there -/
theorem Sta.hide {a : Addr} {o : HO} (st : Sta K ce z s0 H0 F0 Γ σ F H) (ha : H a = some o) (hF : F a = none) (h0 : H0 a = none) (hs : ∀ (j : Nat) (d : D), Γ[j]? = some (.own d) → σ[j]? ≠ some (some (.ref a))) :
    Same H0 (L2.upd H0 a o) ∧ Sta K ce z s0 (L2.upd H0 a o) F0 Γ σ F H := by
  have s1 : Same H0 (L2.upd H0 a o) := sameUpd h0
  refine ⟨s1, st.ev, ⟨st.x.sF, fun b u e => ?_, st.x.sub, fun b h1 h2 => ?_⟩, fun j d b h1 h2 => ?_, st.sep, fun j d h1 => ?_, st.slf⟩
  · by_cases q : b = a
    · subst q
      rw [upd_same] at e
      cases e
      exact ha
    · rw [upd_ne q] at e
      exact st.x.sH _ _ e
  · rw [upd_ne (fun q => h2 (by rw [q]; exact hF))]
    exact st.x.new b h1 h2
  · rw [upd_ne (fun q => hs j d h1 (by rw [← q]; exact h2))]
    exact st.own j d b h1 h2
  · obtain ⟨v, q1, q2⟩ := st.bor j d h1
    exact ⟨v, q1, BRep.mono (.refl _) s1 _ _ q2⟩
theorem Sta.show_ {H0' : Hp} (s1 : Same H0 H0') (hb : Γ.all noB = true) (st : Sta K ce z s0 H0' F0 Γ σ F H) : Sta K ce z s0 H0 F0 Γ σ F H := by
  refine ⟨st.ev, ⟨st.x.sF, s1.trans st.x.sH, st.x.sub, fun b h1 h2 => s1.free (st.x.new b h1 h2)⟩, fun j d b h1 h2 => s1.free (st.own j d b h1 h2), st.sep, fun j d h1 => ?_, st.slf⟩
  have := List.all_eq_true.mp hb _ (List.mem_of_getElem? h1)
  cases this
/-- .. is frozen -/
theorem Sta.frzA {a : Addr} {o : HO} (st : Sta K ce z s0 H0 F0 Γ σ F H) (ha : H a = some o) (hF : F a = none) (h0 : H0 a = none) (hs : ∀ (j : Nat) (d : D), Γ[j]? = some (.own d) → σ[j]? ≠ some (some (.ref a))) :
    Sta K ce z s0 H0 F0 Γ σ (L2.upd F a o) H ∧ Same F (L2.upd F a o) := by
  obtain ⟨s1, s2⟩ := Ext.freeze st.ev.sub hF ha
  refine ⟨⟨⟨s2, fun i c e => ?_, st.ev.len⟩, ⟨st.x.sF.trans s1, st.x.sH, s2, fun b h1 h2 => ?_⟩, st.own, st.sep, st.bor, st.slf⟩, s1⟩
  · have q := st.ev.cells i c e
    cases c with
    | no => trivial
    | val d => obtain ⟨v, q1, q2⟩ := q; exact ⟨v, q1, Rep.mono s1 _ _ q2⟩
    | own d =>
      obtain ⟨b, u, q1, q2, q3, q4⟩ := q
      refine ⟨b, u, q1, ?_, q3, ObjRep.mono s1 _ _ q4⟩
      rw [upd_ne (fun w => hs i d e (by rw [← w]; exact q1))]
      exact q2
    | bor d => obtain ⟨v, q1, q2⟩ := q; exact ⟨v, q1, BRep.mono s1 (.refl _) _ _ q2⟩
  · by_cases q : b = a
    · rw [q]; exact h0
    · rw [upd_ne q] at h2
      exact st.x.new b h1 h2
theorem dx_lc {wi : TI} {tg : TG} {te : TE} {vs : List Nat} {its : Slots → Res (List D)} {h : GFn} {g : XFn} (hi : DenI K ce W wi its) (hg : DenG K ce vs tg h) (he : DenX K ce .none z te g) (hv : ∀ k ∈ vs, z ≠ some k := by decide) : DenX K ce W z (tLc wi tg tYes te vs) (xLc vs its h g) := fun s0 H0 F0 Γ σ F H Q st hh => by
  refine hi Γ σ F H _ st.ev (Res.wp_mono (Res.wp_bind (res_out st hh)) (fun _ z => z) fun ds _ k J F1 H1 x1 io => ?_)
  split at k
  rotate_left
  · exact k.elim
  rename_i hz
  split at k
  rotate_left
  · exact k.elim
  rename_i out Γ' hout
  have st1 := st.ext x1
  intro D hD
  have hFD1 : F1 D = none := x1.sub.free hD
  have h0D : H0 D = none := st1.x.sH.free hD
  have ns1 : ∀ (j : Nat) (d : FL.D), Γ[j]? = some (.own d) → σ[j]? ≠ some (some (.ref D)) := fun j d q1 q2 => by
    obtain ⟨b, o, p1, _, p3, _⟩ := st1.ev.cells j _ q1
    rw [q2] at p1
    cases p1
    rw [hD] at p3
    cases p3
  have nsw : ∀ {Γa : Slots} {σa : L2.St}, (∀ (j : Nat) (d : FL.D), Γa[j]? = some (.own d) → σa[j]? ≠ some (some (.ref D))) → ∀ (j : Nat) (d : FL.D), (wipeG Γa vs)[j]? = some (.own d) → (L2.wipe σa vs)[j]? ≠ some (some (.ref D)) := fun {Γa σa} hq j d q1 q2 => by
    rcases wipeG_get q1 with q | ⟨e1, e2⟩
    · cases q
    · rw [wipe_out e2] at q2
      exact hq j d e1 q2
  refine ⟨fun i m H' => ∃ (F' : Hp) (Γc : Slots) (acc rest : List FL.D) (ws : List V), m = ds.length - i ∧ i ≤ ds.length ∧ Sta K ce z s0 H0 F0 Γc (L2.wipe σ vs) F' H' ∧ (∀ k ∈ vs, ∀ c, Γc[k]? = some c → c = .no) ∧ Same F F' ∧ Same F1 F' ∧ F' D = none ∧ H' D = some (.lst ws) ∧
      Reps K ce F' acc ws ∧ (∀ (j : Nat) (d : FL.D), Γc[j]? = some (.own d) → (L2.wipe σ vs)[j]? ≠ some (some (.ref D))) ∧ acc.length ≤ i ∧ lcX h g vs Γc (ds.drop i) = some (rest, Γ') ∧ acc ++ rest = out,
    ⟨ds.length, F1, wipeG Γ vs, [], out, [], by simp, Nat.zero_le _, ?_, wipeG_no, x1.sF, .refl _, hFD1, upd_same, by unfold Reps; rfl, nsw ns1, Nat.le_refl _, by rw [List.drop_zero]; exact hout, rfl⟩, ?_⟩
  · exact (sta_poke st1 hFD1 h0D ns1).wipe2 hv
  rintro i m H' ⟨F', Γc, acc, rest, ws, rfl, hi', st', hno, sF, s1, hFD, hHD, hac, hns, hal, hr, he'⟩
  obtain ⟨go, stop⟩ := io F' H' s1 st'.ev.sub noSame
  by_cases hlt : i < ds.length
  · have ed : ds[i]? = some ds[i] := List.getElem?_eq_getElem hlt
    obtain ⟨g1, g2⟩ := go i _ ed
    rw [List.drop_eq_getElem_cons hlt] at hr
    unfold lcX at hr
    refine .inr ⟨g1, fun H2 => ∃ (F' : Hp) (Γc : Slots) (acc rest : List FL.D) (ws : List V), i + 1 ≤ ds.length ∧ Sta K ce z s0 H0 F0 Γc (L2.wipe σ vs) F' H2 ∧ (∀ k ∈ vs, ∀ c, Γc[k]? = some c → c = .no) ∧ Same F F' ∧ Same F1 F' ∧ F' D = none ∧ H2 D = some (.lst ws) ∧
      Reps K ce F' acc ws ∧ (∀ (j : Nat) (d : FL.D), Γc[j]? = some (.own d) → (L2.wipe σ vs)[j]? ≠ some (some (.ref D))) ∧ acc.length ≤ i + 1 ∧ lcX h g vs Γc (ds.drop (i + 1)) = some (rest, Γ') ∧ acc ++ rest = out, ?_, fun v H2 hy => ?_⟩
    · rintro H2 ⟨F2, Γ2, acc, rest, ws, h1, h2, h3, h4, h5, h6, h7, h8, h9, h10, h11, h12⟩
      exact ⟨_, (by omega : ds.length - (i + 1) < ds.length - i), F2, Γ2, acc, rest, ws, rfl, h1, h2, h3, h4, h5, h6, h7, h8, h9, h10, h11, h12⟩
    · obtain ⟨F2, y2, rd⟩ := g2 v H2 hy
      cases q1 : toO (h ds[i] Γc) with
      | none => rw [q1] at hr; cases hr
      | some Γ1 =>
        rw [q1] at hr
        simp only [Option.bind_some] at hr
        refine hg Γc (L2.wipe σ vs) F2 H2 v _ _ (st'.ev.ext y2) rd ?_
        rw [toO_some q1]
        refine fun σ1 ev1 u1 => ⟨wipe_eq u1, ?_⟩
        have stX := (st'.ext y2).upd hv ev1 u1
        obtain ⟨k1, k2⟩ := ext_own y2 hFD hHD
        have nsX : ∀ (j : Nat) (d : FL.D), Γ1[j]? = some (.own d) → σ1[j]? ≠ some (some (.ref D)) := fun j d q1 q2 => by
          rcases u1.at_ j with ⟨_, d', w⟩ | ⟨w1, w2⟩
          · rw [q1] at w; cases w
          · exact hns j d (w1 ▸ q1) (w2 ▸ q2)
        obtain ⟨sH, stY⟩ := stX.hide k2 k1 h0D nsX
        cases q2 : toO (g Γ1) with
        | none => rw [q2] at hr; cases hr
        | some p =>
          rw [q2] at hr
          simp only [Option.bind_some] at hr
          split at hr
          rotate_left
          · cases hr
          rename_i hnb
          unfold tYes
          dsimp only
          rw [if_pos rfl]
          refine he s0 _ F0 Γ1 σ1 F2 H2 _ stY ?_
          rw [toO_some q2]
          refine fun w F3 H3 st3 s3 rw_ => ?_
          have hD3 : H3 D = some (.lst ws) := st3.x.sH _ _ upd_same
          have hF3 : F3 D = none := by
            cases e : F3 D with
            | none => rfl
            | some o =>
              have := st3.x.new D (st1.x.sF.free hFD1) (by rw [e]; exact fun y => nomatch y)
              rw [upd_same] at this
              cases this
          have hl : acc.length = ws.length := hac.length.symm
          refine ⟨ws, hD3, by rw [← hl]; omega, ?_⟩
          cases q3 : lcX h g vs (wipeG p.2 vs) (ds.drop (i + 1)) with
          | none => rw [q3] at hr; cases hr
          | some q =>
            rw [q3] at hr
            simp only [Option.map_some, Option.some.injEq, Prod.mk.injEq] at hr
            obtain ⟨hr1, hr2⟩ := hr
            subst hr1
            have ns3 : ∀ (j : Nat) (d : FL.D), p.2[j]? = some (.own d) → σ1[j]? ≠ some (some (.ref D)) := fun j d q1 q2 => by
              have := st3.own j d D q1 q2
              rw [upd_same] at this
              cases this
            have st4 := (sta_poke (o' := .lst (ws ++ [w])) (st3.show_ sH hnb) hF3 h0D ns3).wipe2 hv
            rw [wipe_eq u1] at st4
            have ns4 := nsw ns3
            rw [wipe_eq u1] at ns4
            refine ⟨F3, wipeG p.2 vs, acc ++ [p.1], q.1, ws ++ [w], hlt, st4, wipeG_no, (sF.trans y2.sF).trans s3, (s1.trans y2.sF).trans s3, hF3, upd_same, (Reps.mono (y2.sF.trans s3) _ _ hac).app (.cons rw_ .nil), ns4, by simp; omega, ?_, by rw [List.append_assoc]; exact he'⟩
            rw [← hr2]
            exact q3
  · have e : i = ds.length := by omega
    subst e
    rw [List.drop_length] at hr
    cases hr
    rw [List.append_nil] at he'
    subst he'
    refine .inl ⟨stop, ?_⟩
    obtain ⟨st5, s5⟩ := (st'.unwipe hv hno).frzA hHD hFD h0D fun j d q1 q2 => by
      by_cases hj : j ∈ vs
      · have := hno j hj _ q1
        cases this
      · exact hns j d q1 (by rw [wipe_out hj]; exact q2)
    refine k _ _ _ st5 (sF.trans s5) ?_
    unfold Rep
    exact ⟨D, ws, rfl, upd_same, Reps.mono s5 _ _ hac⟩
end
@[simp] theorem x_sRetX_ (g : XFn) (Γ : Slots) : sRetX_ g Γ = thenR (g Γ) fun p => .rt p.1 := id rfl
/-- the walk of such a comprehension: a state, its slots -/
theorem lcX_run {α β : Type} {enc : α → D} {g : XFn} {i : Nat} (st : β → Slots) (val : β → α → D) (nx : β → α → β) (I : Nat → β → Prop) : ∀ (xs : List α) (k : Nat) (b : β),
    (∀ j b x, xs[j]? = some x → I (k + j) b → i < (st b).length ∧ (∃ Γ2, g ((st b).set i (.val (enc x))) = .ok (val b x, Γ2) ∧ Γ2.all noB = true ∧ wipeG Γ2 [i] = st (nx b x)) ∧ I (k + j + 1) (nx b x)) → I k b →
    ∃ vals, lcX (gN i) g [i] (st b) (xs.map enc) = some (vals, st (xs.foldl nx b)) ∧ I (k + xs.length) (xs.foldl nx b) ∧ vals.length = xs.length ∧ ∀ n x, xs[n]? = some x → vals[n]? = some (val ((xs.take n).foldl nx b) x)
  | [], k, b, _, hb => ⟨[], rfl, hb, rfl, fun n x h => by simp at h⟩
  | x :: xs, k, b, hx, hb => by
    obtain ⟨h0, ⟨Γ2, h1, h2, h3⟩, h4⟩ := hx 0 b x rfl hb
    obtain ⟨vals, q1, q2, q3, q4⟩ := lcX_run st val nx I xs (k + 1) (nx b x) (fun j b y hy hI => by
      have := hx (j + 1) b y (by simpa using hy) (by rw [show k + (j + 1) = k + 1 + j by omega]; exact hI)
      rw [show k + (j + 1) = k + 1 + j by omega] at this
      exact this) h4
    refine ⟨val b x :: vals, ?_, by rw [List.length_cons, show k + (xs.length + 1) = k + 1 + xs.length by omega]; exact q2, by simp [q3], fun n y hy => ?_⟩
    · rw [List.map_cons]
      unfold lcX
      rw [x_gN, if_pos h0]
      show ((toO (g ((st b).set i (.val (enc x))))).bind fun p => if p.2.all noB = true then (lcX (gN i) g [i] (wipeG p.2 [i]) (xs.map enc)).map fun q => (p.1 :: q.1, q.2) else none) = _
      rw [h1]
      show (if Γ2.all noB = true then (lcX (gN i) g [i] (wipeG Γ2 [i]) (xs.map enc)).map fun q => (val b x :: q.1, q.2) else none) = _
      rw [if_pos h2, h3, q1]
      rfl
    · cases n with
      | zero => simp at hy; subst hy; rfl
      | succ n => simpa using q4 n y (by simpa using hy)
/-! ### x in t, t a tuple of tuples or lists -/
section
def rInDT (K : PySem.W.Frag) : R2 := fun x y H Q => ∃ d ds, Dp K H x d ∧ Dp K H y (.tuple ds) ∧ SeqAt.shaped d = true ∧ SeqAt.shaped (.tuple ds) = true ∧ Q (.bl (ds.any fun z => PyData.eqv z d)) H
def rNotInDT (K : PySem.W.Frag) : R2 := fun x y H Q => ∃ d ds, Dp K H x d ∧ Dp K H y (.tuple ds) ∧ SeqAt.shaped d = true ∧ SeqAt.shaped (.tuple ds) = true ∧ Q (.bl (!ds.any fun z => PyData.eqv z d)) H
variable {X : Cx}
theorem op_inDT (hu : X.A.units + 65 < cLine) : OpR X (compareOp .In) (rInDT X.K) := by
  intro pins s σ H x y v u Q I rx ry h
  obtain ⟨d, ds, hd, he, sd, se, q⟩ := h
  obtain ⟨as, r1⟩ := Dp.reads I d x v hd rx
  obtain ⟨bs, r2⟩ := Dp.reads I (.tuple ds) y u he ry
  exact SeqAt.in_tuple_reads r2 r1 (SeqAt.canLay_of_shaped se) (SeqAt.canLay_of_shaped sd) (room_in_shaped sd hu) ⟨.bl _, H, I, rfl, q⟩
theorem op_notInDT (hu : X.A.units + 65 < cLine) : OpR X (compareOp .NotIn) (rNotInDT X.K) := by
  intro pins s σ H x y v u Q I rx ry h
  obtain ⟨d, ds, hd, he, sd, se, q⟩ := h
  obtain ⟨as, r1⟩ := Dp.reads I d x v hd rx
  obtain ⟨bs, r2⟩ := Dp.reads I (.tuple ds) y u he ry
  exact SeqAt.notIn_tuple_reads r2 r1 (SeqAt.canLay_of_shaped se) (SeqAt.canLay_of_shaped sd) (room_in_shaped sd hu) ⟨.bl _, H, I, rfl, q⟩
def inDpT : D → D → Res D
  | a, .tup ds => match py a, pys ds with
    | some p, some qs => if SeqAt.shaped p = true ∧ SeqAt.shaped (.tuple qs) = true then .ok (.bl (qs.any fun z => PyData.eqv z p)) else .stuck
    | _, _ => .stuck
  | _, _ => .stuck
def ninDpT : D → D → Res D
  | a, .tup ds => match py a, pys ds with
    | some p, some qs => if SeqAt.shaped p = true ∧ SeqAt.shaped (.tuple qs) = true then .ok (.bl (!qs.any fun z => PyData.eqv z p)) else .stuck
    | _, _ => .stuck
  | _, _ => .stuck
variable {K : PySem.W.Frag} {ce : CE}
theorem py_tupT {ds : List D} {qs : List PyData} (e : pys ds = some qs) : py (.tup ds) = some (.tuple qs) := by unfold py; rw [e]; rfl
theorem od_inDpT : OpDen K ce (rInDT K) inDpT := fun E F H x y a b Q s ha hb h => by
  unfold inDpT at h; split at h
  · split at h
    · rename_i e1 e2
      split at h
      · rename_i hs
        exact ⟨_, _, py_bp s ha e1, py_bp s hb (py_tupT e2), hs.1, hs.2, h _ F H (.refl s) (rBl _)⟩
      · exact h.elim
    · exact h.elim
  · exact h.elim
theorem od_ninDpT : OpDen K ce (rNotInDT K) ninDpT := fun E F H x y a b Q s ha hb h => by
  unfold ninDpT at h; split at h
  · split at h
    · rename_i e1 e2
      split at h
      · rename_i hs
        exact ⟨_, _, py_bp s ha e1, py_bp s hb (py_tupT e2), hs.1, hs.2, h _ F H (.refl s) (rBl _)⟩
      · exact h.elim
    · exact h.elim
  · exact h.elim
end
end FL

/-! What the defs compute, on plain data (printed by gen.py). -/
namespace K22
open PySem L2 FL

def w_law_draws_1 : SFn :=
  sFor (iN asR1 (aCons (eC (.int 60)) aNil)) (gN 6) (sWipe [6] (sIf (nT (e2 gtD (eB 5) (eC (.int 0)))) (sSeq (sApp 2 (e2 modD (eN intD (aCons (eB 5) aNil)) (eC (.int 1009)))) (sVal 5 (e2 fdivD (eB 5) (eC (.int 1009))))) sNx))
def w_law_draws_2 : SFn :=
  sFor (iS (eSl slL (eB 0) oNo (oAt (eC (.int 63))))) (gN 4) (sWipe [4, 5, 6] (sSeq (sVal 5 (eN absD (aCons (eB 4) aNil))) (sSeq (sVal 3 (e2 modD (eN intD (aCons (e2 addD (e2 addD (e2 mulD (eB 3) (eC (.int 48271))) (eB 5)) (eC (.int 11))) aNil)) (eC (.int 2147483647)))) (sWipe [5, 6] (sIf (nT (e2 geD (eB 5) (e2 powD (eC (.int 10)) (eC (.int 18))))) (sWipe [5, 6] w_law_draws_1) (sApp 2 (e2 modD (e2 fdivD (eN intD (aCons (e2 addD (e2 mulD (eB 3) (eC (.int 16807))) (eC (.int 5))) aNil)) (eC (.int 3))) (eC (.int 65521)))))))))
def w_law_draws_3 : SFn :=
  sFor (iN asR1 (aCons (eB 1) aNil)) (gN 6) (sWipe [6] (sIf (nT (e2 ltD (eN lenD (aCons (eB 2) aNil)) (eB 1))) (sSeq (sVal 3 (e2 modD (eN intD (aCons (e2 addD (e2 addD (e2 mulD (eB 3) (eC (.int 69621))) (eB 6)) (eC (.int 1))) aNil)) (eC (.int 2147483647)))) (sApp 2 (e2 modD (e2 fdivD (eN intD (aCons (eB 3) aNil)) (eC (.int 7))) (eC (.int 65521))))) sNx))
def g_law_draws : SFn :=
  (sSeq (sOwn 2 (eN mkLst aNil)) (sSeq (sVal 3 (eC (.int 7))) (sSeq (sWipe [4, 5, 6] w_law_draws_2) (sSeq (sWipe [3, 6] w_law_draws_3) (sRet (eSl slL (eB 2) oNo (oAt (eB 1))))))))
def m_law_draws : List D → Res D := runV 7 [false, false] g_law_draws
def c_law_rows_1 : EFn :=
  eLc [5] (iN asR1 (aCons (eB 1) aNil)) (gN 5) nYes (e2 modD (eN intD (aCons (e2 fdivD (e2 FL.getD (eB 0) (e2 modD (e2 addD (e2 mulD (eC (.int 4)) (eB 4)) (eB 5)) (eN lenD (aCons (eB 0) aNil)))) (e2 addD (eC (.int 1)) (eB 4))) aNil)) (eB 2))
def w_law_rows_1 : SFn :=
  sFor (iN asR1 (aCons (eB 2) aNil)) (gN 4) (sWipe [4] (sApp 3 (eN tupD (aCons c_law_rows_1 aNil))))
def g_law_rows : SFn :=
  (sSeq (sOwn 3 (eN mkLst aNil)) (sSeq (sWipe [4] w_law_rows_1) (sSeq (sSetI 3 (eC (.int 0)) (e2 catT (eN mkTup (aCons (eC (.int 0)) aNil)) (eSl slT (e2 FL.getD (eB 3) (eC (.int 0))) (oAt (eC (.int 1))) oNo))) (sFrz 3 (sRet (eV 3))))))
def m_law_rows : List D → Res D := runV 6 [false, false, false] g_law_rows
def c_law_drawn_1 : EFn :=
  eLc [6] (iN asR1 (aCons (eB 3) aNil)) (gN 6) nYes (e2 modD (eN intD (aCons (e2 fdivD (e2 FL.getD (eB 0) (e2 addD (eC (.int 3)) (e2 modD (e2 addD (e2 mulD (eC (.int 5)) (eB 6)) (eC (.int 2))) (e2 subD (eN lenD (aCons (eB 0) aNil)) (eC (.int 3)))))) (eC (.int 7))) aNil)) (e2 FL.getD (eN mkLst (aCons (eC (.int 2)) (aCons (eC (.int 3)) (aCons (eC (.int 10)) aNil)))) (e2 modD (eN intD (aCons (e2 FL.getD (eB 0) (eC (.int 2))) aNil)) (eC (.int 3)))))
def g_law_drawn : SFn :=
  (sSeq (sPar [2, 3] (lVal (e2 addD (eC (.int 2)) (e2 modD (eN intD (aCons (e2 FL.getD (eB 0) (eC (.int 0))) aNil)) (eC (.int 3)))) (lVal (e2 addD (eC (.int 1)) (e2 modD (eN intD (aCons (e2 FL.getD (eB 0) (eC (.int 1))) aNil)) (eB 1))) lNil))) (sSeq (sVal 4 (eN m_law_rows (aCons (eSl slL (eB 0) (oAt (eC (.int 3))) oNo) (aCons (eV 2) (aCons (eV 3) aNil))))) (sSeq (sVal 5 c_law_drawn_1) (sRet (eN mkTup (aCons (eV 2) (aCons (eN tupD (aCons (eB 4) aNil)) (aCons (eN tupD (aCons (eB 5) aNil)) aNil))))))))
def m_law_drawn : List D → Res D := runV 7 [false, false] g_law_drawn
def w_parting_digits_1 : SFn :=
  sFor (iN asR1 (aCons (e1 (fldD 21 0) (eB 0)) aNil)) (gN 8) (sWipe [8, 9] (sSeq (sVal 9 (eN mkTup (aCons (e2 FL.getD (e2 FL.getD (e1 (fldD 21 1) (eB 0)) (e2 FL.getD (eB 7) (eC (.int 0)))) (eB 8)) (aCons (e2 FL.getD (e2 FL.getD (e1 (fldD 21 1) (eB 2)) (e2 FL.getD (eB 7) (eC (.int 1)))) (eB 8)) aNil)))) (sIf (nT (e2 nninD (eB 9) (eB 4))) (sSeq (sPutN 4 (eV 9) (eN mkTup (aStar (e2 ngetD (eB 4) (eB 7)) (aCons (eV 8) aNil)))) (sApp 5 (eV 9))) sNx)))
def w_parting_digits_2 : SFn :=
  sWhile (nT (e2 ltD (eB 6) (eN lenD (aCons (eB 5) aNil)))) (sWipe [7, 8, 9] (sSeq (sVal 7 (e2 FL.getD (eB 5) (eB 6))) (sSeq (sIf (nT (e2 neD (e2 FL.getD (e1 (fldD 21 2) (eB 0)) (e2 FL.getD (eB 7) (eC (.int 0)))) (e2 FL.getD (e1 (fldD 21 2) (eB 2)) (e2 FL.getD (eB 7) (eC (.int 1)))))) (sRet (e2 ngetD (eB 4) (eB 7))) sNx) (sSeq (sWipe [8, 9] w_parting_digits_1) (sAug addD 6 (eC (.int 1)))))))
def g_parting_digits : SFn :=
  (sSeq (sOwn 4 (eNOne (eN mkTup (aCons (eV 1) (aCons (eV 3) aNil))) (eN mkTup aNil))) (sSeq (sOwn 5 (eN mkLst (aCons (eN mkTup (aCons (eV 1) (aCons (eV 3) aNil))) aNil))) (sSeq (sVal 6 (eC (.int 0))) (sSeq (sWipe [6, 7, 8, 9] w_parting_digits_2) (sRet (eC .non))))))
def m_parting_digits : List D → Res D := runV 10 [true, false, true, false] g_parting_digits
def g_is_integer : SFn :=
  (sRet (eAnd (eN isiD (aCons (eB 0) (aCons (eC (.ty .int)) aNil))) (eAnd (eNot (eN isiD (aCons (eB 0) (aCons (eC (.ty .bl)) aNil)))) (eChain leD leD (eB 1) (eB 0) (eB 2)))))
def m_is_integer : List D → Res D := runV 3 [false, false, false] g_is_integer
def c_are_rows_1 : EFn :=
  eLc [3] (iS (eB 2)) (gN 3) nYes (eN m_is_integer (aCons (eV 3) (aCons (eC (.int 0)) (aCons (e2 subD (eN lenD (aCons (eB 0) aNil)) (eC (.int 1))) aNil))))
def w_are_rows_1 : SFn :=
  sFor (iS (eP 0)) (gN 2) (sWipe [2] (sSeq (sIf (nOr (nNot (nT (eN isiT (aCons (eB 2) (aCons (eN mkTup (aCons (eC (.ty .lst)) (aCons (eC (.ty .tup)) aNil))) aNil))))) (nT (e2 neD (eN lenD (aCons (eB 2) aNil)) (eB 1)))) (sRet (eC (.bl false))) sNx) (sIf (nNot (nT (eN allD (aCons c_are_rows_1 aNil)))) (sRet (eC (.bl false))) sNx)))
def g_are_rows : SFn :=
  (sSeq (sIf (nOr (nNot (nT (eN isiT (aCons (eB 0) (aCons (eN mkTup (aCons (eC (.ty .lst)) (aCons (eC (.ty .tup)) aNil))) aNil))))) (nNot (nT (eChain leD leD (eC (.int 1)) (eN lenD (aCons (eB 0) aNil)) (eC (.int 2000)))))) (sRet (eC (.bl false))) sNx) (sSeq (sWipe [2] w_are_rows_1) (sRet (eC (.bl true)))))
def m_are_rows : List D → Res D := runV 4 [true, false] g_are_rows
def c_are_outputs_1 : EFn :=
  eLc [2] (iS (eB 0)) (gN 2) nYes (eN m_is_integer (aCons (eV 2) (aCons (eC (.int 0)) (aCons (eC (.int 9)) aNil))))
def g_are_outputs : SFn :=
  (sSeq (sIf (nOr (nNot (nT (eN isiT (aCons (eB 0) (aCons (eN mkTup (aCons (eC (.ty .lst)) (aCons (eC (.ty .tup)) aNil))) aNil))))) (nT (e2 neD (eN lenD (aCons (eB 0) aNil)) (eB 1)))) (sRet (eC (.bl false))) sNx) (sRet (eN allD (aCons c_are_outputs_1 aNil))))
def m_are_outputs : List D → Res D := runV 3 [true, false] g_are_outputs
def c_Sequence__init__1 : EFn :=
  eLc [4] (iS (eB 2)) (gN 4) nYes (eN tupA (aCons (eV 4) aNil))
def g_Sequence__init_ : SFn :=
  (sSeq (sIf (nOr (nNot (nT (eN m_is_integer (aCons (eV 1) (aCons (eC (.int 2)) (aCons (eC (.int 4)) aNil)))))) (nOr (nNot (nT (eN m_are_rows (aCons (eB 2) (aCons (eV 1) aNil))))) (nNot (nT (eN m_are_outputs (aCons (eB 3) (aCons (eN lenD (aCons (eB 2) aNil)) aNil))))))) (sRaise 5) sNx) (sSeq (sFldS 21 0 0 (eV 1)) (sSeq (sFldS 21 1 0 (eN tupD (aCons c_Sequence__init__1 aNil))) (sSeq (sFldS 21 2 0 (eN tupA (aCons (eV 3) aNil))) (sIf (nT (e2 notN (eN m_parting_digits (aCons (eB 0) (aCons (eC (.int 0)) (aCons (eB 0) (aCons (e2 FL.getD (e2 FL.getD (e1 (fldD 21 1) (eB 0)) (eC (.int 0))) (eC (.int 0))) aNil))))) (eC .non))) (sRaise 6) sNx)))))
def m_Sequence__init_ : List D → Res D := runXI 21 5 [false, false, false] g_Sequence__init_
def w_law_numbers_I_1 : SFn :=
  sFor (iS (eV 0)) (gN 3) (sWipe [3] (sSeq (sIf (nT (e2 dnin (eB 3) (eB 1))) (sPut 1 (eB 3) (eN lenK (aCons (eB 1) aNil))) sNx) (sApp 2 (e2 dget (eB 1) (eB 3)))))
def g_law_numbers_I : SFn :=
  (sSeq (sPar [1, 2] (lOwn (eC (.dI [])) (lOwn (eN mkLst aNil) lNil))) (sSeq (sWipe [3] w_law_numbers_I_1) (sFrz 2 (sRet (eV 2)))))
def m_law_numbers_I : List D → Res D := runV 4 [false] g_law_numbers_I
def w_law_numbers_T_1 : SFn :=
  sFor (iS (eV 0)) (gN 3) (sWipe [3] (sSeq (sIf (nT (e2 nninD (eB 3) (eB 1))) (sPutN 1 (eV 3) (eN lenN (aCons (eB 1) aNil))) sNx) (sApp 2 (e2 ngetD (eB 1) (eB 3)))))
def g_law_numbers_T : SFn :=
  (sSeq (sPar [1, 2] (lOwn (eC (.dN [])) (lOwn (eN mkLst aNil) lNil))) (sSeq (sWipe [3] w_law_numbers_T_1) (sFrz 2 (sRet (eV 2)))))
def m_law_numbers_T : List D → Res D := runV 4 [false] g_law_numbers_T
def c_law_least_1 : EFn :=
  eLc [10] (iS (e2 FL.getD (eB 0) (eB 11))) (gN 10) nYes (e2 FL.getD (eB 2) (eB 10))
def c_law_least_2 : EFn :=
  eLc [11] (iN asR1 (aCons (eN lenD (aCons (eB 0) aNil)) aNil)) (gN 11) nYes (eN mkTup (aCons (e2 FL.getD (eB 2) (eB 11)) (aCons (eN tupD (aCons c_law_least_1 aNil)) aNil)))
def w_law_least_1 : SFn :=
  sFor (iN asR1 (aCons (eN lenD (aCons (eB 0) aNil)) aNil)) (gN 3) (sWipe [3, 4] (sSeq (sVal 4 c_law_least_2) (sVal 2 (eN m_law_numbers_T (aCons (eV 4) aNil)))))
def w_law_least_2 : SFn :=
  sFor (iS (e2 FL.getD (eB 0) (e2 FL.getD (eB 5) (eB 8)))) (gN 10) (sWipe [10] (sSeq (sIf (nT (e2 dnin (e2 FL.getD (eB 2) (eB 10)) (eB 6))) (sSeq (sPut 6 (e2 FL.getD (eB 2) (eB 10)) (eN lenD (aCons (eB 5) aNil))) (sApp 5 (eV 10))) sNx) (sApp 9 (e2 dget (eB 6) (e2 FL.getD (eB 2) (eB 10))))))
def w_law_least_3 : SFn :=
  sFor (iN asR1 (aCons (eN lenD (aCons (eB 0) aNil)) aNil)) (gN 8) (sWipe [8, 9, 10] (sWipe [9, 10] (sIf (nT (e2 ltD (eB 8) (eN lenD (aCons (eB 5) aNil)))) (sSeq (sOwn 9 (eN mkLst aNil)) (sSeq (sWipe [10] w_law_least_2) (sApp 7 (eN tupD (aCons (eB 9) aNil))))) sNx)))
def c_law_least_3 : EFn :=
  eLc [11] (iS (eB 5)) (gN 11) nYes (e2 FL.getD (eB 1) (eB 11))
def g_law_least : SFn :=
  (sSeq (sVal 2 (eN m_law_numbers_I (aCons (eN listD (aCons (eB 1) aNil)) aNil))) (sSeq (sWipe [3, 4] w_law_least_1) (sSeq (sPar [5, 6, 7] (lOwn (eN mkLst (aCons (eC (.int 0)) aNil)) (lOwn (eIOne (e2 FL.getD (eB 2) (eC (.int 0))) (eC (.int 0))) (lOwn (eN mkLst aNil) lNil)))) (sSeq (sWipe [8, 9, 10] w_law_least_3) (sRet (eN mkTup (aCons (eN tupD (aCons (eB 7) aNil)) (aCons (eN tupD (aCons c_law_least_3 aNil)) aNil))))))))
def m_law_least : List D → Res D := runV 12 [false, false] g_law_least
def c_numbers_I_1 : XFn :=
  xLc [2] (iS (eV 0)) (gN 2) (xSetI 1 (eB 2) (eN lenK (aCons (eB 1) aNil)))
def g_numbers_I : SFn :=
  (sSeq (sOwn 1 (eC (.dI []))) (sRetX_ c_numbers_I_1))
def m_numbers_I : List D → Res D := runV 3 [false] g_numbers_I
def c_numbers_T_1 : XFn :=
  xLc [2] (iS (eV 0)) (gN 2) (xSetN 1 (eV 2) (eN lenN (aCons (eB 1) aNil)))
def g_numbers_T : SFn :=
  (sSeq (sOwn 1 (eC (.dN []))) (sRetX_ c_numbers_T_1))
def m_numbers_T : List D → Res D := runV 3 [false] g_numbers_T
def c_least_sequence_1 : EFn :=
  eLc [10] (iS (eB 5)) (gN 10) nYes (e2 FL.getD (eB 1) (eB 10))
def w_least_sequence_1 : SFn :=
  sFor (iN asEnumT (aCons (e1 (fldD 21 1) (eB 0)) aNil)) (gT 2 (gsC (gN 4) (gsC (gN 5) gsN))) (sWipe [4, 5] (sApp 3 (eN mkTup (aCons (e2 FL.getD (eB 1) (eB 4)) (aCons (eN tupD (aCons c_least_sequence_1 aNil)) aNil)))))
def w_least_sequence_2 : SFn :=
  sWhile (nT (e2 gtD (e2 addD (eN maxD (aCons (eB 1) aNil)) (eC (.int 1))) (eB 2))) (sWipe [3, 4, 5] (sSeq (sVal 2 (e2 addD (eN maxD (aCons (eB 1) aNil)) (eC (.int 1)))) (sSeq (sOwn 3 (eN mkLst aNil)) (sSeq (sWipe [4, 5] w_least_sequence_1) (sFrz 3 (sVal 1 (eN m_numbers_T (aCons (eV 3) aNil))))))))
def w_least_sequence_3 : SFn :=
  sFor (iS (e2 FL.getD (e1 (fldD 21 1) (eB 0)) (e2 FL.getD (eB 7) (eB 9)))) (gN 10) (sWipe [10] (sSeq (sIf (nT (e2 dnin (e2 FL.getD (eB 1) (eB 10)) (eB 6))) (sSeq (sPut 6 (e2 FL.getD (eB 1) (eB 10)) (eN lenD (aCons (eB 7) aNil))) (sApp 7 (eV 10))) sNx) (sApp 5 (e2 dget (eB 6) (e2 FL.getD (eB 1) (eB 10))))))
def w_least_sequence_4 : SFn :=
  sWhile (nT (e2 ltD (eB 9) (eN lenD (aCons (eB 7) aNil)))) (sWipe [5, 10] (sSeq (sOwn 5 (eN mkLst aNil)) (sSeq (sWipe [10] w_least_sequence_3) (sSeq (sFrz 5 (sApp 8 (eV 5))) (sAug addD 9 (eC (.int 1)))))))
def c_least_sequence_2 : EFn :=
  eLc [4] (iS (eB 7)) (gN 4) nYes (e2 FL.getD (e1 (fldD 21 2) (eB 0)) (eB 4))
def g_least_sequence : SFn :=
  (sSeq (sVal 1 (eN m_numbers_I (aCons (e1 (fldD 21 2) (eB 0)) aNil))) (sSeq (sVal 2 (eC (.int 0))) (sSeq (sWipe [2, 3, 4, 5] w_least_sequence_2) (sSeq (sOwn 6 (eIOne (e2 FL.getD (eB 1) (eC (.int 0))) (eC (.int 0)))) (sSeq (sOwn 7 (eN mkLst (aCons (eC (.int 0)) aNil))) (sSeq (sOwn 8 (eN mkLst aNil)) (sSeq (sVal 9 (eC (.int 0))) (sSeq (sWipe [5, 9, 10] w_least_sequence_4) (sFrz 8 (sRet (eN m_Sequence__init_ (aCons (e1 (fldD 21 0) (eB 0)) (aCons (eV 8) (aCons c_least_sequence_2 aNil))))))))))))))
def m_least_sequence : List D → Res D := runX 11 [false] g_least_sequence
def c_law_doubled_1 : EFn :=
  eLc [8] (iN asR1 (aCons (eB 4) aNil)) (gN 8) nYes (e2 addD (e2 FL.getD (eB 7) (eB 8)) (e2 mulD (eB 3) (e2 modD (eN intD (aCons (e2 FL.getD (eB 2) (e2 modD (e2 addD (e2 mulD (eC (.int 3)) (eB 6)) (eB 8)) (eN lenD (aCons (eB 2) aNil)))) aNil)) (eC (.int 2)))))
def w_law_doubled_1 : SFn :=
  sFor (iN asR1 (aCons (e2 mulD (eC (.int 2)) (eB 3)) aNil)) (gN 6) (sWipe [6, 7] (sSeq (sVal 7 (e2 FL.getD (eB 0) (e2 modD (eN intD (aCons (eB 6) aNil)) (eB 3)))) (sApp 5 (eN tupD (aCons c_law_doubled_1 aNil)))))
def g_law_doubled : SFn :=
  (sSeq (sPar [3, 4] (lVal (eN lenD (aCons (eB 0) aNil)) (lVal (eN lenD (aCons (e2 FL.getD (eB 0) (eC (.int 0))) aNil)) lNil))) (sSeq (sOwn 5 (eN mkLst aNil)) (sSeq (sWipe [6, 7] w_law_doubled_1) (sFrz 5 (sRet (eN mkTup (aCons (eV 5) (aCons (e2 catL (eN listD (aCons (eB 1) aNil)) (eN listD (aCons (eB 1) aNil))) aNil))))))))
def m_law_doubled : List D → Res D := runV 9 [false, false, false] g_law_doubled
def w_law_differing_1 : SFn :=
  sFor (iN asR1 (aCons (eB 2) aNil)) (gN 8) (sWipe [8, 9] (sSeq (sVal 9 (eN mkTup (aCons (e2 FL.getD (e2 FL.getD (e2 FL.getD (eB 0) (eC (.int 0))) (eB 6)) (eB 8)) (aCons (e2 FL.getD (e2 FL.getD (e2 FL.getD (eB 1) (eC (.int 0))) (eB 7)) (eB 8)) aNil)))) (sIf (nT (e2 ninDp (eB 9) (eB 4))) (sSeq (sApp 4 (eV 9)) (sApp 3 (e2 addD (e2 mulD (e2 FL.getD (eB 3) (eB 5)) (eB 2)) (eB 8)))) sNx)))
def w_law_differing_2 : SFn :=
  sFor (iN asR1 (aCons (e2 mulD (eN lenD (aCons (e2 FL.getD (eB 0) (eC (.int 0))) aNil)) (eN lenD (aCons (e2 FL.getD (eB 1) (eC (.int 0))) aNil))) aNil)) (gN 5) (sWipe [5, 6, 7, 8, 9] (sWipe [6, 7, 8, 9] (sIf (nT (e2 ltD (eB 5) (eN lenD (aCons (eB 4) aNil)))) (sSeq (sAsg (e2 FL.getD (eB 4) (eB 5)) (gT 2 (gsC (gN 6) (gsC (gN 7) gsN)))) (sSeq (sIf (nT (e2 neD (e2 FL.getD (e2 FL.getD (eB 0) (eC (.int 1))) (eB 6)) (e2 FL.getD (e2 FL.getD (eB 1) (eC (.int 1))) (eB 7)))) (sRet (e2 FL.getD (eB 3) (eB 5))) sNx) (sWipe [8, 9] w_law_differing_1))) sNx)))
def g_law_differing : SFn :=
  (sSeq (sPar [3, 4] (lOwn (eN mkLst (aCons (eC (.int 0)) aNil)) (lOwn (eN mkLst (aCons (eN mkTup (aCons (eC (.int 0)) (aCons (eC (.int 0)) aNil))) aNil)) lNil))) (sSeq (sWipe [5, 6, 7, 8, 9] w_law_differing_2) (sRet (eC .non))))
def m_law_differing : List D → Res D := runV 10 [false, false, false] g_law_differing
def w_differing_1 : SFn :=
  sFor (iS (eV 2)) (gN 4) (sWipe [4] (sVal 3 (e2 addD (e2 mulD (eB 3) (e1 (fldD 21 0) (eB 0))) (eB 4))))
def g_differing : SFn :=
  (sSeq (sIf (nT (e2 neD (e1 (fldD 21 0) (eB 0)) (e1 (fldD 21 0) (eB 1)))) (sRaise 7) sNx) (sSeq (sVal 2 (eN m_parting_digits (aCons (eN m_least_sequence (aCons (eV 0) aNil)) (aCons (eC (.int 0)) (aCons (eN m_least_sequence (aCons (eV 1) aNil)) (aCons (eC (.int 0)) aNil)))))) (sSeq (sIf (nT (e2 isN (eB 2) (eC .non))) (sRet (eC .non)) sNx) (sSeq (sVal 3 (eC (.int 0))) (sSeq (sWipe [4] w_differing_1) (sRet (eV 3)))))))
def m_differing : List D → Res D := runX 5 [false, false] g_differing
def g_same : SFn :=
  (sRet (e2 isN (eN m_differing (aCons (eV 0) (aCons (eV 1) aNil))) (eC .non)))
def m_same : List D → Res D := runX 2 [false, false] g_same
def u_law_refused_1 : Nat → SFn :=
  fun c => (sRet (eAnd (eC (.bl (isub [0, 5, 6, 7] c))) (eNot (eC (.bl (isub [5] c))))))
def g_law_refused : SFn :=
  (sSeq (sTryAs 3 (isub [7]) (qIf (nT (e2 eqD (eB 0) (eC (.str "same")))) (qExpr (eQ m_same (aCons (eV 1) (aCons (eV 2) aNil)))) (qExpr (eQ m_differing (aCons (eV 1) (aCons (eV 2) aNil))))) u_law_refused_1) (sRet (eC (.bl false))))
def m_law_refused : List D → Res D := runV 4 [false, false, false] g_law_refused
def w_digits_below_1 : SFn :=
  sWhile (nT (e2 gtD (eB 0) (eC (.int 0)))) (sSeq (sApp 2 (e2 modD (eB 0) (eB 1))) (sVal 0 (e2 fdivD (eB 0) (eB 1))))
def g_digits_below : SFn :=
  (sSeq (sOwn 2 (eN mkLst aNil)) (sSeq (sWipe [0] w_digits_below_1) (sRet (e1 revL (eB 2)))))
def m_digits_below : List D → Res D := runV 3 [false, false] g_digits_below
def w_Sequence_state_1 : SFn :=
  sFor (iS (eN m_digits_below (aCons (eV 1) (aCons (e1 (fldD 21 0) (eB 0)) aNil)))) (gN 3) (sWipe [3] (sVal 2 (e2 FL.getD (e2 FL.getD (e1 (fldD 21 1) (eB 0)) (eB 2)) (eB 3))))
def g_Sequence_state : SFn :=
  (sSeq (sVal 2 (eC (.int 0))) (sSeq (sWipe [3] w_Sequence_state_1) (sRet (eV 2))))
def m_Sequence_state : List D → Res D := runV 4 [false, false] g_Sequence_state
def g_Sequence_at : SFn :=
  (sRet (e2 FL.getD (e1 (fldD 21 2) (eB 0)) (eMeth 21 m_Sequence_state (eV 0) (aCons (eV 1) aNil))))
def m_Sequence_at : List D → Res D := runV 2 [false, false] g_Sequence_at
def c_law_1 : EFn :=
  eLc [19] (iN asR1 (aCons (e2 addD (eN min2D (aCons (eB 16) (aCons (eC (.int 200)) aNil))) (eC (.int 1))) aNil)) (gN 19) (nT (e2 neD (eMeth 21 m_Sequence_at (eV 5) (aCons (eV 19) aNil)) (eMeth 21 m_Sequence_at (eV 17) (aCons (eV 19) aNil)))) (eV 19)
def g_law : SFn :=
  (sSeq (sVal 1 (eN m_law_draws (aCons (eV 0) (aCons (eC (.int 60)) aNil)))) (sSeq (sAsg (eN m_law_drawn (aCons (eV 1) (aCons (e2 FL.getD (eN mkLst (aCons (eC (.int 12)) (aCons (eC (.int 120)) aNil))) (eN intD (aCons (e2 eqD (e2 modD (eN intD (aCons (e2 FL.getD (eB 1) (eC (.int 55))) aNil)) (eC (.int 20))) (eC (.int 0))) aNil))) aNil))) (gT 3 (gsC (gN 2) (gsC (gN 3) (gsC (gN 4) gsN))))) (sSeq (sVal 5 (eN m_Sequence__init_ (aCons (eV 2) (aCons (eV 3) (aCons (eV 4) aNil))))) (sSeq (sVal 6 (eN m_law_least (aCons (eV 3) (aCons (eV 4) aNil)))) (sSeq (sVal 7 (eN m_least_sequence (aCons (eV 5) aNil))) (sSeq (sIf (nT (e2 neD (eN mkTup (aCons (e1 (fldD 21 0) (eB 7)) (aCons (e1 (fldD 21 1) (eB 7)) (aCons (e1 (fldD 21 2) (eB 7)) aNil)))) (e2 catT (eN mkTup (aCons (eV 2) aNil)) (eV 6)))) (sRet (eC (.bl false))) sNx) (sSeq (sIf (nT (e2 gtD (eN lenD (aCons (eB 3) aNil)) (eC (.int 12)))) (sRet (eC (.bl true))) sNx) (sSeq (sAsg (eN m_law_doubled (aCons (eV 3) (aCons (eV 4) (aCons (eSl slL (eB 1) (oAt (eC (.int 20))) oNo) aNil)))) (gT 2 (gsC (gN 8) (gsC (gN 9) gsN)))) (sSeq (sVal 10 (eN m_Sequence__init_ (aCons (eV 2) (aCons (eV 8) (aCons (eV 9) aNil))))) (sSeq (sVal 11 (eN m_least_sequence (aCons (eV 10) aNil))) (sSeq (sIf (nOr (nT (e2 neD (eN mkTup (aCons (e1 (fldD 21 1) (eB 11)) (aCons (e1 (fldD 21 2) (eB 11)) aNil))) (eB 6))) (nOr (nNot (nT (eN m_same (aCons (eV 5) (aCons (eV 10) aNil))))) (nT (e2 notN (eN m_differing (aCons (eV 5) (aCons (eV 10) aNil))) (eC .non))))) (sRet (eC (.bl false))) sNx) (sSeq (sVal 12 (e2 modD (eN intD (aCons (e2 FL.getD (eB 1) (eC (.int 40))) aNil)) (eN lenD (aCons (eB 3) aNil)))) (sSeq (sVal 13 (e2 catT (e2 catT (eSl slT (eV 4) oNo (oAt (eB 12))) (eN mkTup (aCons (e2 modD (eN intD (aCons (e2 FL.getD (eB 1) (eC (.int 41))) aNil)) (eC (.int 10))) aNil))) (eSl slT (eV 4) (oAt (e2 addD (eB 12) (eC (.int 1)))) oNo))) (sSeq (sVal 14 (eN mkTup (aCons (eV 3) (aCons (eV 13) aNil)))) (sSeq (sWipe [15] (sIf (nT (e2 eqD (e2 modD (eN intD (aCons (e2 FL.getD (eB 1) (eC (.int 42))) aNil)) (eC (.int 2))) (eC (.int 0)))) (sSeq (sVal 15 (eN m_law_drawn (aCons (e2 catL (eN mkLst (aCons (e2 subD (eB 2) (eC (.int 2))) aNil)) (eSl slL (eB 1) (oAt (eC (.int 43))) oNo)) (aCons (eC (.int 8)) aNil)))) (sVal 14 (eN mkTup (aCons (e2 FL.getD (eB 15) (eC (.int 1))) (aCons (e2 FL.getD (eB 15) (eC (.int 2))) aNil))))) sNx)) (sSeq (sVal 16 (eN m_law_differing (aCons (eN mkTup (aCons (eV 3) (aCons (eV 4) aNil))) (aCons (eV 14) (aCons (eV 2) aNil))))) (sSeq (sVal 17 (eN m_Sequence__init_ (aCons (eV 2) (aCons (e2 FL.getD (eB 14) (eC (.int 0))) (aCons (e2 FL.getD (eB 14) (eC (.int 1))) aNil))))) (sSeq (sVal 9 (eN m_same (aCons (eV 5) (aCons (eV 17) aNil)))) (sSeq (sIf (nOr (nT (e2 neD (eN m_differing (aCons (eV 5) (aCons (eV 17) aNil))) (eB 16))) (nOr (nNot (nT (eN isiD (aCons (eB 9) (aCons (eC (.ty .bl)) aNil))))) (nT (e2 neD (eB 9) (e2 isN (eB 16) (eC .non)))))) (sRet (eC (.bl false))) sNx) (sSeq (sIf (nAnd (nT (e2 notN (eB 16) (eC .non))) (nT (e2 ninDpT (eSl slL c_law_1 oNo (oAt (eC (.int 1)))) (eN mkTup (aCons (eN mkLst (aCons (eV 16) aNil)) (aCons (eN mkLst aNil) aNil)))))) (sRet (eC (.bl false))) sNx) (sSeq (sVal 18 (eN m_Sequence__init_ (aCons (e2 addD (eC (.int 2)) (e2 modD (eN intD (aCons (e2 subD (eB 2) (eC (.int 1))) aNil)) (eC (.int 3)))) (aCons (eN mkLst (aCons (e2 repTA (eN mkTup (aCons (eC (.int 0)) aNil)) (e2 addD (eC (.int 2)) (e2 modD (eN intD (aCons (e2 subD (eB 2) (eC (.int 1))) aNil)) (eC (.int 3))))) aNil)) (aCons (eN mkLst (aCons (eC (.int 0)) aNil)) aNil))))) (sRet (eAnd (eN m_law_refused (aCons (eC (.str "same")) (aCons (eV 5) (aCons (eV 18) aNil)))) (eN m_law_refused (aCons (eC (.str "differing")) (aCons (eV 5) (aCons (eV 18) aNil)))))))))))))))))))))))))))
def m_law : List D → Res D := runV 20 [false] g_law
end K22

/-! The program does what Den says (printed by gen.py). -/
namespace K22
open PySem PySem.Spec PyProof.Rows L2 FL

def topS (i : Nat) : Stmt := PySem.Challenge.pw_automatics_k22_least_sequences.main.body.getD i (.Pass ⟨0, 0, 0, 0⟩)
abbrev s_law_draws : Stmt := (topS 20)
abbrev s_law_rows : Stmt := (topS 22)
abbrev s_law_drawn : Stmt := (topS 23)
abbrev s_parting_digits : Stmt := (topS 14)
abbrev s_is_integer : Stmt := (topS 9)
abbrev s_are_rows : Stmt := (topS 11)
abbrev s_are_outputs : Stmt := (topS 10)
abbrev s_Sequence__init_ : Stmt := (inClass (topS 13) 0)
abbrev s_law_numbers_I : Stmt := (topS 25)
abbrev s_law_numbers_T : Stmt := (topS 25)
abbrev s_law_least : Stmt := (topS 26)
abbrev s_numbers_I : Stmt := (topS 17)
abbrev s_numbers_T : Stmt := (topS 17)
abbrev s_least_sequence : Stmt := (topS 18)
abbrev s_law_doubled : Stmt := (topS 27)
abbrev s_law_differing : Stmt := (topS 28)
abbrev s_differing : Stmt := (topS 15)
abbrev s_same : Stmt := (topS 16)
abbrev s_law_refused : Stmt := (topS 29)
abbrev s_digits_below : Stmt := (topS 12)
abbrev s_Sequence_state : Stmt := (inClass (topS 13) 2)
abbrev s_Sequence_at : Stmt := (inClass (topS 13) 3)
abbrev s_law : Stmt := (topS 30)
abbrev ns_Sequence : List Str := ["base", "rows", "outputs"]
theorem nd_Sequence : (ns_Sequence).Nodup := by decide +kernel
structure Txt (K : PySem.W.Frag) (mg : Str → Option Value) (ce : CE) (C_Sequence : Addr) (C_BadSequence : Addr) (C_NotSteady : Addr) (C_OtherBase : Addr) : Prop where
  ce_Sequence : ce 21 = some (C_Sequence, ns_Sequence)
  cl_Sequence : Cls K C_Sequence
  g_BadSequence : mg "BadSequence" = some (.ref C_BadSequence)
  g_NotSteady : mg "NotSteady" = some (.ref C_NotSteady)
  g_OtherBase : mg "OtherBase" = some (.ref C_OtherBase)
  ce_BadSequence : ce 5 = some (C_BadSequence, [])
  x_BadSequence : PySem.W.excIn K C_BadSequence [.type "ValueError", .type "Exception", .type "BaseException", .type "object"] "ValueError.__new__" = true
  k_BadSequence : PySem.W.keepIn K (.ref C_BadSequence) = true
  b_BadSequence : PySem.W.subIn K (.ref C_BadSequence) (.type "BaseException") = some true
  t_BadSequence : PySem.W.typeIn K (.ref C_BadSequence) = some (.type "type")
  ce_NotSteady : ce 6 = some (C_NotSteady, [])
  x_NotSteady : PySem.W.excIn K C_NotSteady [.type "ValueError", .type "Exception", .type "BaseException", .type "object"] "ValueError.__new__" = true
  k_NotSteady : PySem.W.keepIn K (.ref C_NotSteady) = true
  b_NotSteady : PySem.W.subIn K (.ref C_NotSteady) (.type "BaseException") = some true
  t_NotSteady : PySem.W.typeIn K (.ref C_NotSteady) = some (.type "type")
  ce_OtherBase : ce 7 = some (C_OtherBase, [])
  x_OtherBase : PySem.W.excIn K C_OtherBase [.type "ValueError", .type "Exception", .type "BaseException", .type "object"] "ValueError.__new__" = true
  k_OtherBase : PySem.W.keepIn K (.ref C_OtherBase) = true
  b_OtherBase : PySem.W.subIn K (.ref C_OtherBase) (.type "BaseException") = some true
  t_OtherBase : PySem.W.typeIn K (.ref C_OtherBase) = some (.type "type")
  exm_OtherBase_OtherBase : PySem.W.exmOne K (.ref C_OtherBase) (.ref C_OtherBase) = some true
  ec_OtherBase : ExcC K C_OtherBase
  kit_OtherBase_BadSequence : PySem.W.kitOne K (.ref C_OtherBase) (.ref C_BadSequence) = some false
  kit_OtherBase_ValueError : PySem.W.kitOne K (.ref C_OtherBase) (.type "ValueError") = some true
  na_Sequence_base : NoAttr K C_Sequence "base"
  na_Sequence_outputs : NoAttr K C_Sequence "outputs"
  na_Sequence_rows : NoAttr K C_Sequence "rows"
  n_ValueError : mg "ValueError" = none
  n_abs : mg "abs" = none
  n_all : mg "all" = none
  n_bool : mg "bool" = none
  n_enumerate : mg "enumerate" = none
  n_int : mg "int" = none
  n_isinstance : mg "isinstance" = none
  n_len : mg "len" = none
  n_list : mg "list" = none
  n_max : mg "max" = none
  n_min : mg "min" = none
  n_range : mg "range" = none
  n_tuple : mg "tuple" = none
  c_MOST_OUTPUT : ∃ t, mg "MOST_OUTPUT" = some (.int 9 t)
  c_MOST_STATES : ∃ t, mg "MOST_STATES" = some (.int 2000 t)
section
variable {P : Program} {w : World} {K : PySem.W.Frag} {mg : Str → Option Value} {base : Heap} {ce : CE} {C_Sequence : Addr} {C_BadSequence : Addr} {C_NotSteady : Addr} {C_OtherBase : Addr}
theorem sc_law_draws : FnScope ["_law_script", "_law_many", "_law_draws_here", "_law_seed", "_law_cell", "_law_number", "_law_k"] ["_law_script", "_law_many"] (defScope s_law_draws) := ⟨rfl, rfl, rfl, by decide +kernel, rfl, by decide +kernel, by decide +kernel⟩
set_option maxHeartbeats 4000000 in
theorem ok_law_draws {f : Addr} {fd : FuncData} (Fn : Fun K "_law_draws" "_law_draws" s_law_draws f fd) (T : Txt K mg ce C_Sequence C_BadSequence C_NotSteady C_OtherBase)  : FnOk P w K mg base CX0 1 f fd ["_law_script", "_law_many"] (SpV K ce 2 [false, false] m_law_draws) := by
  have nd := sc_law_draws.nd
  have h := fn_ok (P := P) (w := w) (mg := mg) (base := base) (ce := ce) (k := 0) (ms := [false, false]) (g := g_law_draws) Fn sc_law_draws fun cdv A outer s H E hr => ⟨_, (pss_cons (ps_set (i := 2) nd rfl (by first | exact Or.inl rfl | exact Or.inr rfl) (pe_lst pa_nil)) (pss_cons (ps_set (i := 3) nd rfl (by first | exact Or.inl rfl | exact Or.inr rfl) pe_int) (pss_cons (ps_for PassesOwn.never rfl (pi_seq (pe_slice sl_list (pv 0) po_none (po_some pe_int))) (pg_name (i := 4) nd rfl (by first | exact Or.inl rfl | exact Or.inr rfl)) (pss_cons (ps_set (i := 5) nd rfl (by first | exact Or.inl rfl | exact Or.inr rfl) (pe_callB call_abs (by rfl) T.n_abs boot_abs (pa_cons (pv 4) pa_nil))) (pss_cons (ps_set (i := 3) nd rfl (by first | exact Or.inl rfl | exact Or.inr rfl) (pe_op op_mod (pe_callTy call_int1 (by rfl) T.n_int boot_int (pa_cons (pe_op op_add (pe_op op_add (pe_op op_mul (pv 3) pe_int) (pv 5)) pe_int) pa_nil)) pe_int)) (pss_one (ps_if (pt_cmpR op_ge (pv 5) (pe_op op_pow pe_int pe_int) (nomark _)) (pss_one (ps_for PassesOwn.never rfl (pi_range1 (by rfl) T.n_range (pa_cons pe_int pa_nil)) (pg_name (i := 6) nd rfl (by first | exact Or.inl rfl | exact Or.inr rfl)) (pss_one (ps_if (pt_cmpR op_gt (pv 5) pe_int (nomark _)) (pss_cons (ps_expr (pe_bm PySem.F.plainAttrs_list PySem.F.slot_list_append PySem.F.type_list_append mt_append (pv 2) (pa_cons (pe_op op_mod (pe_callTy call_int1 (by rfl) T.n_int boot_int (pa_cons (pv 5) pa_nil)) pe_int) pa_nil))) (pss_one (ps_set (i := 5) nd rfl (by first | exact Or.inl rfl | exact Or.inr rfl) (pe_op op_fdiv (pv 5) pe_int)))) pss_nil)))) (pss_one (ps_expr (pe_bm PySem.F.plainAttrs_list PySem.F.slot_list_append PySem.F.type_list_append mt_append (pv 2) (pa_cons (pe_op op_mod (pe_op op_fdiv (pe_callTy call_int1 (by rfl) T.n_int boot_int (pa_cons (pe_op op_add (pe_op op_mul (pv 3) pe_int) pe_int) pa_nil)) pe_int) pe_int) pa_nil))))))))) (pss_cons (ps_for PassesOwn.never rfl (pi_range1 (by rfl) T.n_range (pa_cons (pv 1) pa_nil)) (pg_name (i := 6) nd rfl (by first | exact Or.inl rfl | exact Or.inr rfl)) (pss_one (ps_if (pt_cmpR op_lt (pe_callB call_len_seq (by rfl) T.n_len boot_len (pa_cons (pv 2) pa_nil)) (pv 1) (nomark _)) (pss_cons (ps_set (i := 3) nd rfl (by first | exact Or.inl rfl | exact Or.inr rfl) (pe_op op_mod (pe_callTy call_int1 (by rfl) T.n_int boot_int (pa_cons (pe_op op_add (pe_op op_add (pe_op op_mul (pv 3) pe_int) (pv 6)) pe_int) pa_nil)) pe_int)) (pss_one (ps_expr (pe_bm PySem.F.plainAttrs_list PySem.F.slot_list_append PySem.F.type_list_append mt_append (pv 2) (pa_cons (pe_op op_mod (pe_op op_fdiv (pe_callTy call_int1 (by rfl) T.n_int boot_int (pa_cons (pv 3) pa_nil)) pe_int) pe_int) pa_nil))))) pss_nil))) (pss_one (ps_ret (pe_slice sl_list (pv 2) po_none (po_some (pv 1))))))))), (ds_seq (ds_own 2 (den_lst den_avnil)) (ds_seq (ds_val 3 (den_int 7)) (ds_seq (ds_wipe [4, 5, 6] (ds_for (is := [4]) (den_iS (DenF.v (den_slL (den_varB 0) den_ono (den_oat (DenV.b (den_int 63)))))) (dg_name 4) (ds_wipe [4, 5, 6] (ds_seq (ds_val 5 (den_cb cd_abs (den_acons (den_varB 4) den_anil))) (ds_seq (ds_val 3 (den_op od_mod (DenV.b (den_cb cd_int (den_acons (DenV.b (den_op od_add (DenV.b (den_op od_add (DenV.b (den_op od_mul (den_varB 3) (DenV.b (den_int 48271)))) (den_varB 5))) (DenV.b (den_int 11)))) den_anil))) (DenV.b (den_int 2147483647)))) (ds_wipe [5, 6] (ds_if (den_tTest (DenV.b (den_op od_ge (den_varB 5) (DenV.b (den_op od_pow (DenV.b (den_int 10)) (DenV.b (den_int 18))))))) (ds_wipe [5, 6] (ds_for (is := [6]) (den_iR1 (den_acons (DenV.b (den_int 60)) den_anil)) (dg_name 6) (ds_wipe [6] (ds_if (den_tTest (DenV.b (den_op od_gt (den_varB 5) (DenV.b (den_int 0))))) (ds_seq (ds_app 2 (den_op od_mod (DenV.b (den_cb cd_int (den_acons (den_varB 5) den_anil))) (DenV.b (den_int 1009)))) (ds_val 5 (den_op od_fdiv (den_varB 5) (DenV.b (den_int 1009))))) ds_nil)))) (ds_app 2 (den_op od_mod (DenV.b (den_op od_fdiv (DenV.b (den_cb cd_int (den_acons (DenV.b (den_op od_add (DenV.b (den_op od_mul (den_varB 3) (DenV.b (den_int 16807)))) (DenV.b (den_int 5)))) den_anil))) (DenV.b (den_int 3)))) (DenV.b (den_int 65521))))))))))) (ds_seq (ds_wipe [3, 6] (ds_for (is := [6]) (den_iR1 (den_acons (den_varB 1) den_anil)) (dg_name 6) (ds_wipe [6] (ds_if (den_tTest (DenV.b (den_op od_lt (DenV.b (den_cb cd_len (den_acons (den_varB 2) den_anil))) (den_varB 1)))) (ds_seq (ds_val 3 (den_op od_mod (DenV.b (den_cb cd_int (den_acons (DenV.b (den_op od_add (DenV.b (den_op od_add (DenV.b (den_op od_mul (den_varB 3) (DenV.b (den_int 69621)))) (den_varB 6))) (DenV.b (den_int 1)))) den_anil))) (DenV.b (den_int 2147483647)))) (ds_app 2 (den_op od_mod (DenV.b (den_op od_fdiv (DenV.b (den_cb cd_int (den_acons (den_varB 3) den_anil))) (DenV.b (den_int 7)))) (DenV.b (den_int 65521))))) ds_nil)))) (ds_ret (DenF.v (den_slL (den_varB 2) den_ono (den_oat (den_varB 1)))))))))⟩
  exact h
theorem sc_law_rows : FnScope ["_law_draws_here", "_law_base", "_law_size", "_law_rows_here", "_law_s", "_law_d"] ["_law_draws_here", "_law_base", "_law_size"] (defScope s_law_rows) := ⟨rfl, rfl, rfl, by decide +kernel, rfl, by decide +kernel, by decide +kernel⟩
set_option maxHeartbeats 4000000 in
theorem ok_law_rows {f : Addr} {fd : FuncData} (Fn : Fun K "_law_rows" "_law_rows" s_law_rows f fd) (T : Txt K mg ce C_Sequence C_BadSequence C_NotSteady C_OtherBase)  : FnOk P w K mg base CX0 1 f fd ["_law_draws_here", "_law_base", "_law_size"] (SpV K ce 3 [false, false, false] m_law_rows) := by
  have nd := sc_law_rows.nd
  have h := fn_ok (P := P) (w := w) (mg := mg) (base := base) (ce := ce) (k := 0) (ms := [false, false, false]) (g := g_law_rows) Fn sc_law_rows fun cdv A outer s H E hr => ⟨_, (pss_cons (ps_set (i := 3) nd rfl (by first | exact Or.inl rfl | exact Or.inr rfl) (pe_lst pa_nil)) (pss_cons (ps_for PassesOwn.never rfl (pi_range1 (by rfl) T.n_range (pa_cons (pv 2) pa_nil)) (pg_name (i := 4) nd rfl (by first | exact Or.inl rfl | exact Or.inr rfl)) (pss_one (ps_expr (pe_bm PySem.F.plainAttrs_list PySem.F.slot_list_append PySem.F.type_list_append mt_append (pv 3) (pa_cons (pe_callTy call_tuple_of (by rfl) T.n_tuple boot_tuple (pa_cons (pe_lc (own := [("_law_d", 5)]) rfl nd (pi_range1 (by rfl) T.n_range (pa_cons (pv 1) pa_nil)) (blkOk_by (by first | decide +kernel | kernel_rfl)) (fun _ _ _ _ _ => (pg_name (i := 5) nd rfl (by first | exact Or.inl rfl | exact Or.inr rfl))) (fun _ _ _ _ _ => pts_nil) (fun _ _ _ _ _ => (pe_op op_mod (pe_callTy call_int1 (by rfl) T.n_int boot_int (pa_cons (pe_op op_fdiv (pe_ix ix_seq (pv 0) (pe_op op_mod (pe_op op_add (pe_op op_mul pe_int (pv 4)) (pv 5)) (pe_callB call_len_seq (by rfl) T.n_len boot_len (pa_cons (pv 0) pa_nil))) (fun _ _ => rfl)) (pe_op op_add pe_int (pv 4))) pa_nil)) (pv 2)))) pa_nil)) pa_nil))))) (pss_cons (ps_asg (pe_op op_catA (pe_tup (pa_cons pe_int pa_nil)) (pe_slice sl_tupA (pe_ix ix_seq (pv 3) pe_int (fun _ _ => rfl)) (po_some pe_int) po_none)) (pg_sub (pv 3) pe_int set_list)) (pss_one (ps_ret (pv 3)))))), (ds_seq (ds_own 3 (den_lst den_avnil)) (ds_seq (ds_wipe [4] (ds_for (is := [4]) (den_iR1 (den_acons (den_varB 2) den_anil)) (dg_name 4) (ds_wipe [4] (ds_app 3 (DenF.v (den_cbF cd_tup (den_acons (DenF.b (den_lc (vs := [5]) (DenI.c (den_iR1 (den_acons (den_varB 1) den_anil))) (dg_name 5) den_tYes (den_op od_mod (DenV.b (den_cb cd_int (den_acons (DenV.b (den_op od_fdiv (DenV.b (den_op od_get (den_varB 0) (DenV.b (den_op od_mod (DenV.b (den_op od_add (DenV.b (den_op od_mul (DenV.b (den_int 4)) (den_varB 4))) (den_varB 5))) (DenV.b (den_cb cd_len (den_acons (den_varB 0) den_anil))))))) (DenV.b (den_op od_add (DenV.b (den_int 1)) (den_varB 4))))) den_anil))) (den_varB 2)))) den_anil))))))) (ds_seq (ds_setI 3 (den_opV od_catT (DenF.v (den_tup (den_avcons (den_int 0) den_avnil))) (den_slT (den_op od_get (den_varB 3) (DenV.b (den_int 0))) (den_oat (DenV.b (den_int 1))) den_ono)) (DenV.b (den_int 0))) (ds_frz 3 (ds_ret (den_var 3))))))⟩
  exact h
theorem sc_law_drawn : FnScope ["_law_draws_here", "_law_most", "_law_base", "_law_size", "_law_rows_here", "_law_outputs", "_law_s"] ["_law_draws_here", "_law_most"] (defScope s_law_drawn) := ⟨rfl, rfl, rfl, by decide +kernel, rfl, by decide +kernel, by decide +kernel⟩
set_option maxHeartbeats 4000000 in
theorem ok_law_drawn {f : Addr} {fd : FuncData} (Fn : Fun K "_law_drawn" "_law_drawn" s_law_drawn f fd) (T : Txt K mg ce C_Sequence C_BadSequence C_NotSteady C_OtherBase) {f_law_rows : Addr} {fd_law_rows : FuncData} (c_law_rows : Cal P w K mg base "_law_rows" 1 f_law_rows fd_law_rows ["_law_draws_here", "_law_base", "_law_size"] (SpV K ce 3 [false, false, false] m_law_rows)) : FnOk P w K mg base CX0 2 f fd ["_law_draws_here", "_law_most"] (SpV K ce 2 [false, false] m_law_drawn) := by
  have nd := sc_law_drawn.nd
  have h := fn_ok (P := P) (w := w) (mg := mg) (base := base) (ce := ce) (k := 1) (ms := [false, false]) (g := g_law_drawn) Fn sc_law_drawn fun cdv A outer s H E hr => ⟨_, (pss_cons (ps_par (i := 2) (j := 3) rfl nd rfl rfl (by decide) rfl rfl (pa_cons (pe_op op_add pe_int (pe_op op_mod (pe_callTy call_int1 (by rfl) T.n_int boot_int (pa_cons (pe_ix ix_seq (pv 0) pe_int (fun _ _ => rfl)) pa_nil)) pe_int)) (pa_cons (pe_op op_add pe_int (pe_op op_mod (pe_callTy call_int1 (by rfl) T.n_int boot_int (pa_cons (pe_ix ix_seq (pv 0) pe_int (fun _ _ => rfl)) pa_nil)) (pv 1))) pa_nil)) (by rfl)) (pss_cons (ps_set (i := 4) nd rfl (by first | exact Or.inl rfl | exact Or.inr rfl) (pe_call c_law_rows.ok (hr.mono (by decide)) (by rfl) c_law_rows.m c_law_rows.kp c_law_rows.b .nil pass0 (pa_cons (pe_slice sl_list (pv 0) (po_some pe_int) po_none) (pa_cons (pv 2) (pa_cons (pv 3) pa_nil))))) (pss_cons (ps_setLc (i := 5) (own := [("_law_s", 6)]) rfl nd rfl rfl (sw_true rfl rfl rfl (by decide +kernel)) (pi_range1 (by rfl) T.n_range (pa_cons (pv 3) pa_nil)) (blkOk_by (by first | decide +kernel | kernel_rfl)) (fun _ _ _ _ _ => (pg_name (i := 6) nd rfl (by first | exact Or.inl rfl | exact Or.inr rfl))) (fun _ _ _ _ _ => pts_nil) (fun _ _ _ _ _ => (pe_op op_mod (pe_callTy call_int1 (by rfl) T.n_int boot_int (pa_cons (pe_op op_fdiv (pe_ix ix_seq (pv 0) (pe_op op_add pe_int (pe_op op_mod (pe_op op_add (pe_op op_mul pe_int (pv 6)) pe_int) (pe_op op_sub (pe_callB call_len_seq (by rfl) T.n_len boot_len (pa_cons (pv 0) pa_nil)) pe_int))) (fun _ _ => rfl)) pe_int) pa_nil)) (pe_ix ix_seq (pe_lst (pa_cons pe_int (pa_cons pe_int (pa_cons pe_int pa_nil)))) (pe_op op_mod (pe_callTy call_int1 (by rfl) T.n_int boot_int (pa_cons (pe_ix ix_seq (pv 0) pe_int (fun _ _ => rfl)) pa_nil)) pe_int) (fun _ _ => rfl))))) (pss_one (ps_ret (pe_tup (pa_cons (pv 2) (pa_cons (pe_callTy call_tuple_of (by rfl) T.n_tuple boot_tuple (pa_cons (pv 4) pa_nil)) (pa_cons (pe_callTy call_tuple_of (by rfl) T.n_tuple boot_tuple (pa_cons (pv 5) pa_nil)) pa_nil))))))))), (ds_seq (ds_par 2 3 (dl_v (den_op od_add (DenV.b (den_int 2)) (DenV.b (den_op od_mod (DenV.b (den_cb cd_int (den_acons (DenV.b (den_op od_get (den_varB 0) (DenV.b (den_int 0)))) den_anil))) (DenV.b (den_int 3))))) (dl_v (den_op od_add (DenV.b (den_int 1)) (DenV.b (den_op od_mod (DenV.b (den_cb cd_int (den_acons (DenV.b (den_op od_get (den_varB 0) (DenV.b (den_int 1)))) den_anil))) (den_varB 1)))) dl_nil))) (ds_seq (ds_val 4 (den_call noW (dm_v (DenF.v (den_slL (den_varB 0) (den_oat (DenV.b (den_int 3))) den_ono)) (dm_v (den_var 2) (dm_v (den_var 3) dm_nil))))) (ds_seq (ds_val 5 (DenF.v (den_lc (vs := [6]) (DenI.c (den_iR1 (den_acons (den_varB 3) den_anil))) (dg_name 6) den_tYes (den_op od_mod (DenV.b (den_cb cd_int (den_acons (DenV.b (den_op od_fdiv (DenV.b (den_op od_get (den_varB 0) (DenV.b (den_op od_add (DenV.b (den_int 3)) (DenV.b (den_op od_mod (DenV.b (den_op od_add (DenV.b (den_op od_mul (DenV.b (den_int 5)) (den_varB 6))) (DenV.b (den_int 2)))) (DenV.b (den_op od_sub (DenV.b (den_cb cd_len (den_acons (den_varB 0) den_anil))) (DenV.b (den_int 3)))))))))) (DenV.b (den_int 7)))) den_anil))) (DenV.b (den_op od_get (DenF.b (den_lst (den_avcons (den_int 2) (den_avcons (den_int 3) (den_avcons (den_int 10) den_avnil))))) (DenV.b (den_op od_mod (DenV.b (den_cb cd_int (den_acons (DenV.b (den_op od_get (den_varB 0) (DenV.b (den_int 2)))) den_anil))) (DenV.b (den_int 3)))))))))) (ds_ret (DenF.v (den_tup (den_avcons (den_var 2) (den_avcons (DenF.v (den_cbF cd_tup (den_acons (den_varB 4) den_anil))) (den_avcons (DenF.v (den_cbF cd_tup (den_acons (den_varB 5) den_anil))) den_avnil)))))))))⟩
  exact h
theorem sc_parting_digits : FnScope ["first", "one", "second", "two", "ways", "queue", "at", "pair", "digit", "later"] ["first", "one", "second", "two"] (defScope s_parting_digits) := ⟨rfl, rfl, rfl, by decide +kernel, rfl, by decide +kernel, by decide +kernel⟩
set_option maxHeartbeats 4000000 in
theorem ok_parting_digits {f : Addr} {fd : FuncData} (Fn : Fun K "parting_digits" "parting_digits" s_parting_digits f fd) (T : Txt K mg ce C_Sequence C_BadSequence C_NotSteady C_OtherBase)  : FnOk P w K mg base CX0 1 f fd ["first", "one", "second", "two"] (SpV K ce 4 [true, false, true, false] m_parting_digits) := by
  have nd := sc_parting_digits.nd
  have h := fn_ok (P := P) (w := w) (mg := mg) (base := base) (ce := ce) (k := 0) (ms := [true, false, true, false]) (g := g_parting_digits) Fn sc_parting_digits fun cdv A outer s H E hr => ⟨_, (pss_cons (ps_set (i := 4) nd rfl (by first | exact Or.inl rfl | exact Or.inr rfl) (pe_none_ (hu65 hr) (pe_tup (pa_cons (pv 1) (pa_cons (pv 3) pa_nil))) (pe_tup pa_nil))) (pss_cons (ps_set (i := 5) nd rfl (by first | exact Or.inl rfl | exact Or.inr rfl) (pe_lst (pa_cons (pe_tup (pa_cons (pv 1) (pa_cons (pv 3) pa_nil))) pa_nil))) (pss_cons (ps_set (i := 6) nd rfl (by first | exact Or.inl rfl | exact Or.inr rfl) pe_int) (pss_cons (ps_while PassesOwn.never (pt_cmpR op_lt (pv 6) (pe_callB call_len_seq (by rfl) T.n_len boot_len (pa_cons (pv 5) pa_nil)) (nomark _)) (pss_cons (ps_set (i := 7) nd rfl (by first | exact Or.inl rfl | exact Or.inr rfl) (pe_ix ix_seq (pv 5) (pv 6) (fun _ _ => rfl))) (pss_cons (ps_if (pt_cmpR (op_neD hr.units) (pe_ix ix_seq (pe_fld (pv 0) rfl) (pe_ix ix_seq (pv 7) pe_int (fun _ _ => rfl)) (fun _ _ => rfl)) (pe_ix ix_seq (pe_fld (pv 2) rfl) (pe_ix ix_seq (pv 7) pe_int (fun _ _ => rfl)) (fun _ _ => rfl)) (nomark _)) (pss_one (ps_ret (pe_nget (hu65 hr) (pv 4) (pv 7) (fun _ _ => rfl)))) pss_nil) (pss_cons (ps_for PassesOwn.never rfl (pi_range1 (by rfl) T.n_range (pa_cons (pe_fld (pv 0) rfl) pa_nil)) (pg_name (i := 8) nd rfl (by first | exact Or.inl rfl | exact Or.inr rfl)) (pss_cons (ps_set (i := 9) nd rfl (by first | exact Or.inl rfl | exact Or.inr rfl) (pe_tup (pa_cons (pe_ix ix_seq (pe_ix ix_seq (pe_fld (pv 0) rfl) (pe_ix ix_seq (pv 7) pe_int (fun _ _ => rfl)) (fun _ _ => rfl)) (pv 8) (fun _ _ => rfl)) (pa_cons (pe_ix ix_seq (pe_ix ix_seq (pe_fld (pv 2) rfl) (pe_ix ix_seq (pv 7) pe_int (fun _ _ => rfl)) (fun _ _ => rfl)) (pv 8) (fun _ _ => rfl)) pa_nil)))) (pss_one (ps_if (pt_cmp (pc_nnotin (hu65 hr) (pv 9) (pv 4))) (pss_cons (ps_nput (hu65 hr) (pv 4) (pv 9) (pe_tup (StX.pa_star (pe_nget (hu65 hr) (pv 4) (pv 7) (fun _ _ => rfl)) (pa_cons (pv 8) pa_nil))) rfl) (pss_one (ps_expr (pe_bm PySem.F.plainAttrs_list PySem.F.slot_list_append PySem.F.type_list_append mt_append (pv 5) (pa_cons (pv 9) pa_nil))))) pss_nil)))) (pss_one (ps_aug (i := 6) nd rfl (by first | exact Or.inl rfl | exact Or.inr rfl) pe_int ip_add)))))) (pss_one (ps_ret pe_non)))))), (ds_seq (ds_own 4 (den_none_ (DenF.v (den_tup (den_avcons (den_var 1) (den_avcons (den_var 3) den_avnil)))) (DenF.v (den_tup den_avnil)))) (ds_seq (ds_own 5 (den_lst (den_avcons (DenF.v (den_tup (den_avcons (den_var 1) (den_avcons (den_var 3) den_avnil)))) den_avnil))) (ds_seq (ds_val 6 (den_int 0)) (ds_seq (ds_wipe [6, 7, 8, 9] (ds_while (den_tTest (DenV.b (den_op od_lt (den_varB 6) (DenV.b (den_cb cd_len (den_acons (den_varB 5) den_anil)))))) (ds_wipe [7, 8, 9] (ds_seq (ds_val 7 (den_op od_get (den_varB 5) (den_varB 6))) (ds_seq (ds_if (den_tTest (DenV.b (den_op od_neD (DenV.b (den_op od_get (DenV.b (den_fld (c := 21) (j := 2) T.ce_Sequence rfl nd_Sequence T.cl_Sequence T.na_Sequence_outputs (den_varB 0))) (DenV.b (den_op od_get (den_varB 7) (DenV.b (den_int 0)))))) (DenV.b (den_op od_get (DenV.b (den_fld (c := 21) (j := 2) T.ce_Sequence rfl nd_Sequence T.cl_Sequence T.na_Sequence_outputs (den_varB 2))) (DenV.b (den_op od_get (den_varB 7) (DenV.b (den_int 1))))))))) (ds_ret (den_nget (den_varB 4) (den_varB 7))) ds_nil) (ds_seq (ds_wipe [8, 9] (ds_for (is := [8]) (den_iR1 (den_acons (DenV.b (den_fld (c := 21) (j := 0) T.ce_Sequence rfl nd_Sequence T.cl_Sequence T.na_Sequence_base (den_varB 0))) den_anil)) (dg_name 8) (ds_wipe [8, 9] (ds_seq (ds_val 9 (DenF.v (den_tup (den_avcons (den_op od_get (DenV.b (den_op od_get (DenV.b (den_fld (c := 21) (j := 1) T.ce_Sequence rfl nd_Sequence T.cl_Sequence T.na_Sequence_rows (den_varB 0))) (DenV.b (den_op od_get (den_varB 7) (DenV.b (den_int 0)))))) (den_varB 8)) (den_avcons (den_op od_get (DenV.b (den_op od_get (DenV.b (den_fld (c := 21) (j := 1) T.ce_Sequence rfl nd_Sequence T.cl_Sequence T.na_Sequence_rows (den_varB 2))) (DenV.b (den_op od_get (den_varB 7) (DenV.b (den_int 1)))))) (den_varB 8)) den_avnil))))) (ds_if (den_tB (DenV.b (den_nnin (den_varB 9) (den_varB 4)))) (ds_seq (ds_putN 4 (DenF.v (den_tup (den_star (den_nget (den_varB 4) (den_varB 7)) (den_avcons (den_var 8) den_avnil)))) (den_var 9)) (ds_app 5 (den_var 9))) ds_nil))))) (ds_aug 6 (den_int 1) ai_add))))))) (ds_ret den_non)))))⟩
  exact h
theorem sc_is_integer : FnScope ["value", "least", "most"] ["value", "least", "most"] (defScope s_is_integer) := ⟨rfl, rfl, rfl, by decide +kernel, rfl, by decide +kernel, by decide +kernel⟩
set_option maxHeartbeats 4000000 in
theorem ok_is_integer {f : Addr} {fd : FuncData} (Fn : Fun K "is_integer" "is_integer" s_is_integer f fd) (T : Txt K mg ce C_Sequence C_BadSequence C_NotSteady C_OtherBase)  : FnOk P w K mg base CX0 1 f fd ["value", "least", "most"] (SpV K ce 3 [false, false, false] m_is_integer) := by
  have nd := sc_is_integer.nd
  have h := fn_ok (P := P) (w := w) (mg := mg) (base := base) (ce := ce) (k := 0) (ms := [false, false, false]) (g := g_is_integer) Fn sc_is_integer fun cdv A outer s H E hr => ⟨_, (pss_one (ps_ret (pe_and (pe_callB call_isi (by rfl) T.n_isinstance boot_isinstance (pa_cons (pv 0) (pa_cons (pe_bltn (v := .ty "int") (by rfl) T.n_int boot_int rfl) pa_nil))) (pe_and (pe_not (pe_callB call_isi (by rfl) T.n_isinstance boot_isinstance (pa_cons (pv 0) (pa_cons (pe_bltn (v := .ty "bool") (by rfl) T.n_bool boot_bool rfl) pa_nil)))) (pe_one (pe_chain op_le op_le (pv 1) (pv 0) (pv 2))))))), (ds_ret (den_andV (DenV.b (den_cb cd_isi (den_acons (den_varB 0) (den_acons (DenV.b (den_ty .int)) den_anil)))) (den_andV (DenV.b (den_notV (DenV.b (den_cb cd_isi (den_acons (den_varB 0) (den_acons (DenV.b (den_ty .bl)) den_anil)))))) (den_chain od_le od_le (den_varB 1) (den_varB 0) (den_varB 2)))))⟩
  exact h
theorem sc_are_rows : FnScope ["rows", "width", "row", "state"] ["rows", "width"] (defScope s_are_rows) := ⟨rfl, rfl, rfl, by decide +kernel, rfl, by decide +kernel, by decide +kernel⟩
set_option maxHeartbeats 4000000 in
theorem ok_are_rows {f : Addr} {fd : FuncData} (Fn : Fun K "are_rows" "are_rows" s_are_rows f fd) (T : Txt K mg ce C_Sequence C_BadSequence C_NotSteady C_OtherBase) {f_is_integer : Addr} {fd_is_integer : FuncData} (c_is_integer : Cal P w K mg base "is_integer" 1 f_is_integer fd_is_integer ["value", "least", "most"] (SpV K ce 3 [false, false, false] m_is_integer)) : FnOk P w K mg base CX0 2 f fd ["rows", "width"] (SpV K ce 2 [true, false] m_are_rows) := by
  obtain ⟨t_MOST_STATES, h_MOST_STATES⟩ := T.c_MOST_STATES
  have nd := sc_are_rows.nd
  have h := fn_ok (P := P) (w := w) (mg := mg) (base := base) (ce := ce) (k := 1) (ms := [true, false]) (g := g_are_rows) Fn sc_are_rows fun cdv A outer s H E hr => ⟨_, (pss_cons (ps_if (PW.pt (pw_or (pt_not (pt_val (pe_callB call_isiT (by rfl) T.n_isinstance boot_isinstance (pa_cons (pv 0) (pa_cons (pe_tup (pa_cons (pe_bltn (v := .ty "list") (by rfl) T.n_list boot_list rfl) (pa_cons (pe_bltn (v := .ty "tuple") (by rfl) T.n_tuple boot_tuple rfl) pa_nil))) pa_nil))))) (pw_or1 (pt_not (pt_chain op_le op_le pe_int (pe_callB call_len_seq (by rfl) T.n_len boot_len (pa_cons (pv 0) pa_nil)) (pe_glob (v := .int 2000) (by rfl) h_MOST_STATES ⟨_, rfl⟩)))))) (pss_one (ps_ret pe_bl)) pss_nil) (pss_cons (ps_for PassesOwn.never rfl (pi_seq (pv 0)) (pg_name (i := 2) nd rfl (by first | exact Or.inl rfl | exact Or.inr rfl)) (pss_cons (ps_if (PW.pt (pw_or (pt_not (pt_val (pe_callB call_isiT (by rfl) T.n_isinstance boot_isinstance (pa_cons (pv 2) (pa_cons (pe_tup (pa_cons (pe_bltn (v := .ty "list") (by rfl) T.n_list boot_list rfl) (pa_cons (pe_bltn (v := .ty "tuple") (by rfl) T.n_tuple boot_tuple rfl) pa_nil))) pa_nil))))) (pw_or1 (pt_cmpR (op_neD hr.units) (pe_callB call_len_seq (by rfl) T.n_len boot_len (pa_cons (pv 2) pa_nil)) (pv 1) (nomark _))))) (pss_one (ps_ret pe_bl)) pss_nil) (pss_one (ps_if (pt_not (pt_val (pe_callB (cr_all rfl) (by rfl) T.n_all boot_all (pa_cons (pe_lc (own := [("state", 3)]) rfl nd (pi_seq (pv 2)) (blkOk_by (by first | decide +kernel | kernel_rfl)) (fun _ _ _ _ _ => (pg_name (i := 3) nd rfl (by first | exact Or.inl rfl | exact Or.inr rfl))) (fun _ _ _ _ _ => pts_nil) (fun _ _ _ _ _ => (pe_call c_is_integer.ok (hr.mono (by decide)) (by rfl) c_is_integer.m c_is_integer.kp c_is_integer.b .nil pass0 (pa_cons (pv 3) (pa_cons pe_int (pa_cons (pe_op op_sub (pe_callB call_len_seq (by rfl) T.n_len boot_len (pa_cons (pv 0) pa_nil)) pe_int) pa_nil)))))) pa_nil)))) (pss_one (ps_ret pe_bl)) pss_nil)))) (pss_one (ps_ret pe_bl)))), (ds_seq (ds_if (den_or (den_not (den_tB (DenV.b (den_cb cd_isiT (den_acons (den_varB 0) (den_acons (DenF.b (den_tup (den_avcons (den_ty .lst) (den_avcons (den_ty .tup) den_avnil)))) den_anil)))))) (den_not (den_tTest (DenV.b (den_chain od_le od_le (DenV.b (den_int 1)) (DenV.b (den_cb cd_len (den_acons (den_varB 0) den_anil))) (DenV.b (den_int 2000))))))) (ds_ret (den_bl false)) ds_nil) (ds_seq (ds_wipe [2] (ds_forB (is := [2]) 0 (dg_name 2) (ds_wipe [2] (ds_seq (ds_if (den_or (den_not (den_tB (DenV.b (den_cb cd_isiT (den_acons (den_varB 2) (den_acons (DenF.b (den_tup (den_avcons (den_ty .lst) (den_avcons (den_ty .tup) den_avnil)))) den_anil)))))) (den_tTest (DenV.b (den_op od_neD (DenV.b (den_cb cd_len (den_acons (den_varB 2) den_anil))) (den_varB 1))))) (ds_ret (den_bl false)) ds_nil) (ds_if (den_not (den_tB (DenV.b (den_cb cd_all (den_acons (DenF.b (den_lc (vs := [3]) (den_iSc (den_varB 2)) (dg_name 3) den_tYes (den_call noW (dm_v (den_var 3) (dm_v (den_int 0) (dm_v (den_op od_sub (DenV.b (den_cb cd_len (den_acons (den_varB 0) den_anil))) (DenV.b (den_int 1))) dm_nil)))))) den_anil))))) (ds_ret (den_bl false)) ds_nil))))) (ds_ret (den_bl true))))⟩
  exact h
theorem sc_are_outputs : FnScope ["values", "count", "value"] ["values", "count"] (defScope s_are_outputs) := ⟨rfl, rfl, rfl, by decide +kernel, rfl, by decide +kernel, by decide +kernel⟩
set_option maxHeartbeats 4000000 in
theorem ok_are_outputs {f : Addr} {fd : FuncData} (Fn : Fun K "are_outputs" "are_outputs" s_are_outputs f fd) (T : Txt K mg ce C_Sequence C_BadSequence C_NotSteady C_OtherBase) {f_is_integer : Addr} {fd_is_integer : FuncData} (c_is_integer : Cal P w K mg base "is_integer" 1 f_is_integer fd_is_integer ["value", "least", "most"] (SpV K ce 3 [false, false, false] m_is_integer)) : FnOk P w K mg base CX0 2 f fd ["values", "count"] (SpV K ce 2 [true, false] m_are_outputs) := by
  obtain ⟨t_MOST_OUTPUT, h_MOST_OUTPUT⟩ := T.c_MOST_OUTPUT
  have nd := sc_are_outputs.nd
  have h := fn_ok (P := P) (w := w) (mg := mg) (base := base) (ce := ce) (k := 1) (ms := [true, false]) (g := g_are_outputs) Fn sc_are_outputs fun cdv A outer s H E hr => ⟨_, (pss_cons (ps_if (PW.pt (pw_or (pt_not (pt_val (pe_callB call_isiT (by rfl) T.n_isinstance boot_isinstance (pa_cons (pv 0) (pa_cons (pe_tup (pa_cons (pe_bltn (v := .ty "list") (by rfl) T.n_list boot_list rfl) (pa_cons (pe_bltn (v := .ty "tuple") (by rfl) T.n_tuple boot_tuple rfl) pa_nil))) pa_nil))))) (pw_or1 (pt_cmpR (op_neD hr.units) (pe_callB call_len_seq (by rfl) T.n_len boot_len (pa_cons (pv 0) pa_nil)) (pv 1) (nomark _))))) (pss_one (ps_ret pe_bl)) pss_nil) (pss_one (ps_ret (pe_callB (cr_all rfl) (by rfl) T.n_all boot_all (pa_cons (pe_lc (own := [("value", 2)]) rfl nd (pi_seq (pv 0)) (blkOk_by (by first | decide +kernel | kernel_rfl)) (fun _ _ _ _ _ => (pg_name (i := 2) nd rfl (by first | exact Or.inl rfl | exact Or.inr rfl))) (fun _ _ _ _ _ => pts_nil) (fun _ _ _ _ _ => (pe_call c_is_integer.ok (hr.mono (by decide)) (by rfl) c_is_integer.m c_is_integer.kp c_is_integer.b .nil pass0 (pa_cons (pv 2) (pa_cons pe_int (pa_cons (pe_glob (v := .int 9) (by rfl) h_MOST_OUTPUT ⟨_, rfl⟩) pa_nil)))))) pa_nil))))), (ds_seq (ds_if (den_or (den_not (den_tB (DenV.b (den_cb cd_isiT (den_acons (den_varB 0) (den_acons (DenF.b (den_tup (den_avcons (den_ty .lst) (den_avcons (den_ty .tup) den_avnil)))) den_anil)))))) (den_tTest (DenV.b (den_op od_neD (DenV.b (den_cb cd_len (den_acons (den_varB 0) den_anil))) (den_varB 1))))) (ds_ret (den_bl false)) ds_nil) (ds_ret (den_cb cd_all (den_acons (DenF.b (den_lc (vs := [2]) (den_iSc (den_varB 0)) (dg_name 2) den_tYes (den_call noW (dm_v (den_var 2) (dm_v (den_int 0) (dm_v (den_int 9) dm_nil)))))) den_anil))))⟩
  exact h
theorem sc_Sequence__init_ : FnScope ["self", "base", "rows", "outputs", "row"] ["self", "base", "rows", "outputs"] (defScope s_Sequence__init_) := ⟨rfl, rfl, rfl, by decide +kernel, rfl, by decide +kernel, by decide +kernel⟩
set_option maxHeartbeats 4000000 in
theorem ok_Sequence__init_ {f : Addr} {fd : FuncData} (Fn : Fun K "__init__" "Sequence.__init__" s_Sequence__init_ f fd) (T : Txt K mg ce C_Sequence C_BadSequence C_NotSteady C_OtherBase) {f_is_integer : Addr} {fd_is_integer : FuncData} (c_is_integer : Cal P w K mg base "is_integer" 1 f_is_integer fd_is_integer ["value", "least", "most"] (SpV K ce 3 [false, false, false] m_is_integer)) {f_are_rows : Addr} {fd_are_rows : FuncData} (c_are_rows : Cal P w K mg base "are_rows" 2 f_are_rows fd_are_rows ["rows", "width"] (SpV K ce 2 [true, false] m_are_rows)) {f_are_outputs : Addr} {fd_are_outputs : FuncData} (c_are_outputs : Cal P w K mg base "are_outputs" 2 f_are_outputs fd_are_outputs ["values", "count"] (SpV K ce 2 [true, false] m_are_outputs)) {f_parting_digits : Addr} {fd_parting_digits : FuncData} (c_parting_digits : Cal P w K mg base "parting_digits" 1 f_parting_digits fd_parting_digits ["first", "one", "second", "two"] (SpV K ce 4 [true, false, true, false] m_parting_digits)) : FnOk P w K mg base (L2.CX P w) 3 f fd ["self", "base", "rows", "outputs"] (SpI K ce 21 3 [false, false, false] m_Sequence__init_) := by
  have nd := sc_Sequence__init_.nd
  have h := fn_okXI (P := P) (w := w) (mg := mg) (base := base) (ce := ce) (k := 2) (ms := [false, false, false]) (g := g_Sequence__init_) (c := 21) Fn sc_Sequence__init_ fun cdv A outer s H E hr => ⟨_, (pss_cons (ps_if (PW.pt (pw_or (pt_not (pt_val (pe_call c_is_integer.ok (hr.mono (by decide)) (by rfl) c_is_integer.m c_is_integer.kp c_is_integer.b .nil (passN (E := E)) (pa_cons (pv 1) (pa_cons pe_int (pa_cons pe_int pa_nil)))))) (pw_or (pt_not (pt_val (pe_call c_are_rows.ok (hr.mono (by decide)) (by rfl) c_are_rows.m c_are_rows.kp c_are_rows.b .nil (passN (E := E)) (pa_cons (pv 2) (pa_cons (pv 1) pa_nil))))) (pw_or1 (pt_not (pt_val (pe_call c_are_outputs.ok (hr.mono (by decide)) (by rfl) c_are_outputs.m c_are_outputs.kp c_are_outputs.b .nil (passN (E := E)) (pa_cons (pv 3) (pa_cons (pe_callB call_len_seq (by rfl) T.n_len boot_len (pa_cons (pv 2) pa_nil)) pa_nil))))))))) (pss_one (ps_raise rfl (takes_of rfl rfl rfl rfl) (pmk_own PySem.F.excBase_ValueError T.x_BadSequence T.g_BadSequence T.k_BadSequence (raises_own T.b_BadSequence T.t_BadSequence) rfl))) pss_nil) (pss_cons (ps_fld (pv 0) (pv 1) rfl) (pss_cons (ps_fld (pv 0) (pe_callTy call_tuple_of (by rfl) T.n_tuple boot_tuple (pa_cons (pe_lc (own := [("row", 4)]) rfl nd (pi_seq (pv 2)) (blkOk_by (by first | decide +kernel | kernel_rfl)) (fun _ _ _ _ _ => (pg_name (i := 4) nd rfl (by first | exact Or.inl rfl | exact Or.inr rfl))) (fun _ _ _ _ _ => pts_nil) (fun _ _ _ _ _ => (pe_callTy call_tuple_of (by rfl) T.n_tuple boot_tuple (pa_cons (pv 4) pa_nil)))) pa_nil)) rfl) (pss_cons (ps_fld (pv 0) (pe_callTy call_tuple_of (by rfl) T.n_tuple boot_tuple (pa_cons (pv 3) pa_nil)) rfl) (pss_one (ps_if (pt_cmpR op_notN (pe_call c_parting_digits.ok (hr.mono (by decide)) (by rfl) c_parting_digits.m c_parting_digits.kp c_parting_digits.b .nil (passN (E := E)) (pa_cons (pv 0) (pa_cons pe_int (pa_cons (pv 0) (pa_cons (pe_ix ix_seq (pe_ix ix_seq (pe_fld (pv 0) rfl) pe_int (fun _ _ => rfl)) pe_int (fun _ _ => rfl)) pa_nil))))) pe_non (nomark _)) (pss_one (ps_raise rfl (takes_of rfl rfl rfl rfl) (pmk_own PySem.F.excBase_ValueError T.x_NotSteady T.g_NotSteady T.k_NotSteady (raises_own T.b_NotSteady T.t_NotSteady) rfl))) pss_nil)))))), (ds_seq (ds_if (den_or (den_not (den_tB (DenV.b (den_call goW (dm_v (den_var 1) (dm_v (den_int 2) (dm_v (den_int 4) dm_nil))))))) (den_or (den_not (den_tB (DenV.b (den_call goW (dm_b (den_varB 2) (dm_v (den_var 1) dm_nil)))))) (den_not (den_tB (DenV.b (den_call goW (dm_b (den_varB 3) (dm_v (den_cb cd_len (den_acons (den_varB 2) den_anil)) dm_nil)))))))) (ds_raise (c := 5) T.ce_BadSequence) ds_nil) (ds_seq (ds_fld (c := 21) (j := 0) T.ce_Sequence rfl nd_Sequence (by decide) T.cl_Sequence T.na_Sequence_base (den_var 1)) (ds_seq (ds_fld (c := 21) (j := 1) T.ce_Sequence rfl nd_Sequence (by decide) T.cl_Sequence T.na_Sequence_rows (DenF.v (den_cbF cd_tup (den_acons (DenF.b (den_lc (vs := [4]) (den_iSc (den_varB 2)) (dg_name 4) den_tYes (den_cbV cd_tupA (den_avcons (den_var 4) den_avnil)))) den_anil)))) (ds_seq (ds_fld (c := 21) (j := 2) T.ce_Sequence rfl nd_Sequence (by decide) T.cl_Sequence T.na_Sequence_outputs (den_cbV cd_tupA (den_avcons (den_var 3) den_avnil))) (ds_if (den_tTest (DenV.b (den_op od_notN (DenV.b (den_call goW (dm_b (den_varB 0) (dm_v (den_int 0) (dm_b (den_varB 0) (dm_v (den_op od_get (DenV.b (den_op od_get (DenV.b (den_fld (c := 21) (j := 1) T.ce_Sequence rfl nd_Sequence T.cl_Sequence T.na_Sequence_rows (den_varB 0))) (DenV.b (den_int 0)))) (DenV.b (den_int 0))) dm_nil)))))) (DenV.b den_non)))) (ds_raise (c := 6) T.ce_NotSteady) ds_nil)))))⟩
  exact h
theorem sc_law_numbers_I : FnScope ["_law_sights", "_law_known", "_law_found", "_law_sight"] ["_law_sights"] (defScope s_law_numbers_I) := ⟨rfl, rfl, rfl, by decide +kernel, rfl, by decide +kernel, by decide +kernel⟩
set_option maxHeartbeats 4000000 in
theorem ok_law_numbers_I {f : Addr} {fd : FuncData} (Fn : Fun K "_law_numbers" "_law_numbers" s_law_numbers_I f fd) (T : Txt K mg ce C_Sequence C_BadSequence C_NotSteady C_OtherBase)  : FnOk P w K mg base CX0 1 f fd ["_law_sights"] (SpV K ce 1 [false] m_law_numbers_I) := by
  have nd := sc_law_numbers_I.nd
  have h := fn_ok (P := P) (w := w) (mg := mg) (base := base) (ce := ce) (k := 0) (ms := [false]) (g := g_law_numbers_I) Fn sc_law_numbers_I fun cdv A outer s H E hr => ⟨_, (pss_cons (ps_par (i := 1) (j := 2) rfl nd rfl rfl (by decide) rfl rfl (pa_cons pe_dnewK (pa_cons (pe_lst pa_nil) pa_nil)) (by rfl)) (pss_cons (ps_for PassesOwn.never rfl (pi_seq (pv 0)) (pg_name (i := 3) nd rfl (by first | exact Or.inl rfl | exact Or.inr rfl)) (pss_cons (ps_if (pt_cmp (pc_dnotin (hu_of hr) (pv 3) (pv 1))) (pss_one (ps_dput (hu_of hr) (pv 1) (pv 3) (pe_callB call_lenD (by rfl) T.n_len boot_len (pa_cons (pv 1) pa_nil)) rfl)) pss_nil) (pss_one (ps_expr (pe_bm PySem.F.plainAttrs_list PySem.F.slot_list_append PySem.F.type_list_append mt_append (pv 2) (pa_cons (pe_dget (hu_of hr) (pv 1) (pv 3) (fun _ _ => rfl)) pa_nil)))))) (pss_one (ps_ret (pv 2))))), (ds_seq (ds_par 1 2 (dl_o den_dnewI (dl_o (den_lst den_avnil) dl_nil))) (ds_seq (ds_wipe [3] (ds_for (is := [3]) (den_iS (den_var 0)) (dg_name 3) (ds_wipe [3] (ds_seq (ds_if (den_tB (DenV.b (den_dnin (den_varB 3) (den_varB 1)))) (ds_put 1 (den_cb cd_lenK (den_acons (den_varB 1) den_anil)) (den_varB 3)) ds_nil) (ds_app 2 (den_dget (den_varB 1) (den_varB 3))))))) (ds_frz 2 (ds_ret (den_var 2)))))⟩
  exact h
theorem sc_law_numbers_T : FnScope ["_law_sights", "_law_known", "_law_found", "_law_sight"] ["_law_sights"] (defScope s_law_numbers_T) := ⟨rfl, rfl, rfl, by decide +kernel, rfl, by decide +kernel, by decide +kernel⟩
set_option maxHeartbeats 4000000 in
theorem ok_law_numbers_T {f : Addr} {fd : FuncData} (Fn : Fun K "_law_numbers" "_law_numbers" s_law_numbers_T f fd) (T : Txt K mg ce C_Sequence C_BadSequence C_NotSteady C_OtherBase)  : FnOk P w K mg base CX0 1 f fd ["_law_sights"] (SpV K ce 1 [false] m_law_numbers_T) := by
  have nd := sc_law_numbers_T.nd
  have h := fn_ok (P := P) (w := w) (mg := mg) (base := base) (ce := ce) (k := 0) (ms := [false]) (g := g_law_numbers_T) Fn sc_law_numbers_T fun cdv A outer s H E hr => ⟨_, (pss_cons (ps_par (i := 1) (j := 2) rfl nd rfl rfl (by decide) rfl rfl (pa_cons pe_nnew (pa_cons (pe_lst pa_nil) pa_nil)) (by rfl)) (pss_cons (ps_for PassesOwn.never rfl (pi_seq (pv 0)) (pg_name (i := 3) nd rfl (by first | exact Or.inl rfl | exact Or.inr rfl)) (pss_cons (ps_if (pt_cmp (pc_nnotin (hu65 hr) (pv 3) (pv 1))) (pss_one (ps_nput (hu65 hr) (pv 1) (pv 3) (pe_callB call_lenN (by rfl) T.n_len boot_len (pa_cons (pv 1) pa_nil)) rfl)) pss_nil) (pss_one (ps_expr (pe_bm PySem.F.plainAttrs_list PySem.F.slot_list_append PySem.F.type_list_append mt_append (pv 2) (pa_cons (pe_nget (hu65 hr) (pv 1) (pv 3) (fun _ _ => rfl)) pa_nil)))))) (pss_one (ps_ret (pv 2))))), (ds_seq (ds_par 1 2 (dl_o den_nnew (dl_o (den_lst den_avnil) dl_nil))) (ds_seq (ds_wipe [3] (ds_for (is := [3]) (den_iS (den_var 0)) (dg_name 3) (ds_wipe [3] (ds_seq (ds_if (den_tB (DenV.b (den_nnin (den_varB 3) (den_varB 1)))) (ds_putN 1 (den_cb cd_lenN (den_acons (den_varB 1) den_anil)) (den_var 3)) ds_nil) (ds_app 2 (den_nget (den_varB 1) (den_varB 3))))))) (ds_frz 2 (ds_ret (den_var 2)))))⟩
  exact h
theorem sc_law_least : FnScope ["_law_rows_here", "_law_outputs", "_law_blocks", "_law_turn", "_law_sights", "_law_leaders", "_law_places", "_law_found", "_law_at", "_law_row", "_law_later", "_law_s"] ["_law_rows_here", "_law_outputs"] (defScope s_law_least) := ⟨rfl, rfl, rfl, by decide +kernel, rfl, by decide +kernel, by decide +kernel⟩
set_option maxHeartbeats 4000000 in
theorem ok_law_least {f : Addr} {fd : FuncData} (Fn : Fun K "_law_least" "_law_least" s_law_least f fd) (T : Txt K mg ce C_Sequence C_BadSequence C_NotSteady C_OtherBase) {f_law_numbers_I : Addr} {fd_law_numbers_I : FuncData} (c_law_numbers_I : Cal P w K mg base "_law_numbers" 1 f_law_numbers_I fd_law_numbers_I ["_law_sights"] (SpV K ce 1 [false] m_law_numbers_I)) {f_law_numbers_T : Addr} {fd_law_numbers_T : FuncData} (c_law_numbers_T : Cal P w K mg base "_law_numbers" 1 f_law_numbers_T fd_law_numbers_T ["_law_sights"] (SpV K ce 1 [false] m_law_numbers_T)) : FnOk P w K mg base CX0 2 f fd ["_law_rows_here", "_law_outputs"] (SpV K ce 2 [false, false] m_law_least) := by
  have nd := sc_law_least.nd
  have h := fn_ok (P := P) (w := w) (mg := mg) (base := base) (ce := ce) (k := 1) (ms := [false, false]) (g := g_law_least) Fn sc_law_least fun cdv A outer s H E hr => ⟨_, (pss_cons (ps_set (i := 2) nd rfl (by first | exact Or.inl rfl | exact Or.inr rfl) (pe_call c_law_numbers_I.ok (hr.mono (by decide)) (by rfl) c_law_numbers_I.m c_law_numbers_I.kp c_law_numbers_I.b .nil pass0 (pa_cons (pe_callTy call_list_of (by rfl) T.n_list boot_list (pa_cons (pv 1) pa_nil)) pa_nil))) (pss_cons (ps_for PassesOwn.never rfl (pi_range1 (by rfl) T.n_range (pa_cons (pe_callB call_len_seq (by rfl) T.n_len boot_len (pa_cons (pv 0) pa_nil)) pa_nil)) (pg_name (i := 3) nd rfl (by first | exact Or.inl rfl | exact Or.inr rfl)) (pss_cons (ps_setLc (i := 4) (own := [("_law_s", 11)]) rfl nd rfl rfl (sw_true rfl rfl rfl (by decide +kernel)) (pi_range1 (by rfl) T.n_range (pa_cons (pe_callB call_len_seq (by rfl) T.n_len boot_len (pa_cons (pv 0) pa_nil)) pa_nil)) (blkOk_by (by first | decide +kernel | kernel_rfl)) (fun _ _ _ _ _ => (pg_name (i := 11) nd rfl (by first | exact Or.inl rfl | exact Or.inr rfl))) (fun _ _ _ _ _ => pts_nil) (fun _ _ _ _ _ => (pe_tup (pa_cons (pe_ix ix_seq (pv 2) (pv 11) (fun _ _ => rfl)) (pa_cons (pe_callTy call_tuple_of (by rfl) T.n_tuple boot_tuple (pa_cons (pe_lc (own := [("_law_later", 10)]) rfl nd (pi_seq (pe_ix ix_seq (pv 0) (pv 11) (fun _ _ => rfl))) (blkOk_by (by first | decide +kernel | kernel_rfl)) (fun _ _ _ _ _ => (pg_name (i := 10) nd rfl (by first | exact Or.inl rfl | exact Or.inr rfl))) (fun _ _ _ _ _ => pts_nil) (fun _ _ _ _ _ => (pe_ix ix_seq (pv 2) (pv 10) (fun _ _ => rfl)))) pa_nil)) pa_nil))))) (pss_one (ps_set (i := 2) nd rfl (by first | exact Or.inl rfl | exact Or.inr rfl) (pe_call c_law_numbers_T.ok (hr.mono (by decide)) (by rfl) c_law_numbers_T.m c_law_numbers_T.kp c_law_numbers_T.b .nil pass0 (pa_cons (pv 4) pa_nil)))))) (pss_cons (ps_par3 (i := 5) (j := 6) (l := 7) rfl nd rfl rfl rfl (by decide) (by decide) (by decide) rfl rfl rfl (pa_cons (pe_lst (pa_cons pe_int pa_nil)) (pa_cons (pe_disp (pps_cons (pe_ix ix_seq (pv 2) pe_int (fun _ _ => rfl)) pe_int pps_nil) (by rfl) (by rfl) (fun z => by cases z) (by decide)) (pa_cons (pe_lst pa_nil) pa_nil))) (by rfl)) (pss_cons (ps_for PassesOwn.never rfl (pi_range1 (by rfl) T.n_range (pa_cons (pe_callB call_len_seq (by rfl) T.n_len boot_len (pa_cons (pv 0) pa_nil)) pa_nil)) (pg_name (i := 8) nd rfl (by first | exact Or.inl rfl | exact Or.inr rfl)) (pss_one (ps_if (pt_cmpR op_lt (pv 8) (pe_callB call_len_seq (by rfl) T.n_len boot_len (pa_cons (pv 5) pa_nil)) (nomark _)) (pss_cons (ps_set (i := 9) nd rfl (by first | exact Or.inl rfl | exact Or.inr rfl) (pe_lst pa_nil)) (pss_cons (ps_for PassesOwn.never rfl (pi_seq (pe_ix ix_seq (pv 0) (pe_ix ix_seq (pv 5) (pv 8) (fun _ _ => rfl)) (fun _ _ => rfl))) (pg_name (i := 10) nd rfl (by first | exact Or.inl rfl | exact Or.inr rfl)) (pss_cons (ps_if (pt_cmp (pc_dnotin (hu_of hr) (pe_ix ix_seq (pv 2) (pv 10) (fun _ _ => rfl)) (pv 6))) (pss_cons (ps_dput (hu_of hr) (pv 6) (pe_ix ix_seq (pv 2) (pv 10) (fun _ _ => rfl)) (pe_callB call_len_seq (by rfl) T.n_len boot_len (pa_cons (pv 5) pa_nil)) rfl) (pss_one (ps_expr (pe_bm PySem.F.plainAttrs_list PySem.F.slot_list_append PySem.F.type_list_append mt_append (pv 5) (pa_cons (pv 10) pa_nil))))) pss_nil) (pss_one (ps_expr (pe_bm PySem.F.plainAttrs_list PySem.F.slot_list_append PySem.F.type_list_append mt_append (pv 9) (pa_cons (pe_dget (hu_of hr) (pv 6) (pe_ix ix_seq (pv 2) (pv 10) (fun _ _ => rfl)) (fun _ _ => rfl)) pa_nil)))))) (pss_one (ps_expr (pe_bm PySem.F.plainAttrs_list PySem.F.slot_list_append PySem.F.type_list_append mt_append (pv 7) (pa_cons (pe_callTy call_tuple_of (by rfl) T.n_tuple boot_tuple (pa_cons (pv 9) pa_nil)) pa_nil)))))) pss_nil))) (pss_one (ps_ret (pe_tup (pa_cons (pe_callTy call_tuple_of (by rfl) T.n_tuple boot_tuple (pa_cons (pv 7) pa_nil)) (pa_cons (pe_callTy call_tuple_of (by rfl) T.n_tuple boot_tuple (pa_cons (pe_lc (own := [("_law_s", 11)]) rfl nd (pi_seq (pv 5)) (blkOk_by (by first | decide +kernel | kernel_rfl)) (fun _ _ _ _ _ => (pg_name (i := 11) nd rfl (by first | exact Or.inl rfl | exact Or.inr rfl))) (fun _ _ _ _ _ => pts_nil) (fun _ _ _ _ _ => (pe_ix ix_seq (pv 1) (pv 11) (fun _ _ => rfl)))) pa_nil)) pa_nil))))))))), (ds_seq (ds_val 2 (den_call noW (dm_v (DenF.v (den_cbF cd_list (den_acons (den_varB 1) den_anil))) dm_nil))) (ds_seq (ds_wipe [3, 4] (ds_for (is := [3]) (den_iR1 (den_acons (DenV.b (den_cb cd_len (den_acons (den_varB 0) den_anil))) den_anil)) (dg_name 3) (ds_wipe [3, 4] (ds_seq (ds_val 4 (DenF.v (den_lc (vs := [11]) (DenI.c (den_iR1 (den_acons (DenV.b (den_cb cd_len (den_acons (den_varB 0) den_anil))) den_anil))) (dg_name 11) den_tYes (DenF.v (den_tup (den_avcons (den_op od_get (den_varB 2) (den_varB 11)) (den_avcons (DenF.v (den_cbF cd_tup (den_acons (DenF.b (den_lc (vs := [10]) (den_iSc (DenV.b (den_op od_get (den_varB 0) (den_varB 11)))) (dg_name 10) den_tYes (den_op od_get (den_varB 2) (den_varB 10)))) den_anil))) den_avnil))))))) (ds_val 2 (den_call noW (dm_v (den_var 4) dm_nil))))))) (ds_seq (ds_par3 5 6 7 (dl_o (den_lst (den_avcons (den_int 0) den_avnil)) (dl_o (den_ione (den_op od_get (den_varB 2) (DenV.b (den_int 0))) (den_int 0)) (dl_o (den_lst den_avnil) dl_nil)))) (ds_seq (ds_wipe [8, 9, 10] (ds_for (is := [8]) (den_iR1 (den_acons (DenV.b (den_cb cd_len (den_acons (den_varB 0) den_anil))) den_anil)) (dg_name 8) (ds_wipe [8, 9, 10] (ds_wipe [9, 10] (ds_if (den_tTest (DenV.b (den_op od_lt (den_varB 8) (DenV.b (den_cb cd_len (den_acons (den_varB 5) den_anil)))))) (ds_seq (ds_own 9 (den_lst den_avnil)) (ds_seq (ds_wipe [10] (ds_for (is := [10]) (den_iS (den_op od_get (den_varB 0) (DenV.b (den_op od_get (den_varB 5) (den_varB 8))))) (dg_name 10) (ds_wipe [10] (ds_seq (ds_if (den_tB (DenV.b (den_dnin (DenV.b (den_op od_get (den_varB 2) (den_varB 10))) (den_varB 6)))) (ds_seq (ds_put 6 (den_cb cd_len (den_acons (den_varB 5) den_anil)) (DenV.b (den_op od_get (den_varB 2) (den_varB 10)))) (ds_app 5 (den_var 10))) ds_nil) (ds_app 9 (den_dget (den_varB 6) (DenV.b (den_op od_get (den_varB 2) (den_varB 10))))))))) (ds_app 7 (DenF.v (den_cbF cd_tup (den_acons (den_varB 9) den_anil)))))) ds_nil))))) (ds_ret (DenF.v (den_tup (den_avcons (DenF.v (den_cbF cd_tup (den_acons (den_varB 7) den_anil))) (den_avcons (DenF.v (den_cbF cd_tup (den_acons (DenF.b (den_lc (vs := [11]) (den_iSc (den_varB 5)) (dg_name 11) den_tYes (den_op od_get (den_varB 1) (den_varB 11)))) den_anil))) den_avnil)))))))))⟩
  exact h
theorem sc_numbers_I : FnScope ["sights", "known", "sight"] ["sights"] (defScope s_numbers_I) := ⟨rfl, rfl, rfl, by decide +kernel, rfl, by decide +kernel, by decide +kernel⟩
set_option maxHeartbeats 4000000 in
theorem ok_numbers_I {f : Addr} {fd : FuncData} (Fn : Fun K "_numbers" "_numbers" s_numbers_I f fd) (T : Txt K mg ce C_Sequence C_BadSequence C_NotSteady C_OtherBase)  : FnOk P w K mg base CX0 1 f fd ["sights"] (SpV K ce 1 [false] m_numbers_I) := by
  have nd := sc_numbers_I.nd
  have h := fn_ok (P := P) (w := w) (mg := mg) (base := base) (ce := ce) (k := 0) (ms := [false]) (g := g_numbers_I) Fn sc_numbers_I fun cdv A outer s H E hr => ⟨_, (pss_cons (ps_set (i := 1) nd rfl (by first | exact Or.inl rfl | exact Or.inr rfl) pe_dnewK) (pss_one (ps_ret (pe_lc (own := [("sight", 2)]) rfl nd (pi_seq (pv 0)) (blkOk_by (by first | decide +kernel | kernel_rfl)) (fun _ _ _ _ _ => (pg_name (i := 2) nd rfl (by first | exact Or.inl rfl | exact Or.inr rfl))) (fun _ _ _ _ _ => pts_nil) (fun _ _ _ _ _ => (pe_dsetd (pv 1) (pv 2) (pe_callB call_lenD (by rfl) T.n_len boot_len (pa_cons (pv 1) pa_nil)) (by constructor <;> rfl))))))), (ds_seq (ds_own 1 den_dnewI) (ds_retXX (dx_lc (vs := [2]) (den_iS (den_var 0)) (dg_name 2) (dx_setI 1 (den_varB 2) (den_cb cd_lenK (den_acons (den_varB 1) den_anil))))))⟩
  exact h
theorem sc_numbers_T : FnScope ["sights", "known", "sight"] ["sights"] (defScope s_numbers_T) := ⟨rfl, rfl, rfl, by decide +kernel, rfl, by decide +kernel, by decide +kernel⟩
set_option maxHeartbeats 4000000 in
theorem ok_numbers_T {f : Addr} {fd : FuncData} (Fn : Fun K "_numbers" "_numbers" s_numbers_T f fd) (T : Txt K mg ce C_Sequence C_BadSequence C_NotSteady C_OtherBase)  : FnOk P w K mg base CX0 1 f fd ["sights"] (SpV K ce 1 [false] m_numbers_T) := by
  have nd := sc_numbers_T.nd
  have h := fn_ok (P := P) (w := w) (mg := mg) (base := base) (ce := ce) (k := 0) (ms := [false]) (g := g_numbers_T) Fn sc_numbers_T fun cdv A outer s H E hr => ⟨_, (pss_cons (ps_set (i := 1) nd rfl (by first | exact Or.inl rfl | exact Or.inr rfl) pe_nnew) (pss_one (ps_ret (pe_lc (own := [("sight", 2)]) rfl nd (pi_seq (pv 0)) (blkOk_by (by first | decide +kernel | kernel_rfl)) (fun _ _ _ _ _ => (pg_name (i := 2) nd rfl (by first | exact Or.inl rfl | exact Or.inr rfl))) (fun _ _ _ _ _ => pts_nil) (fun _ _ _ _ _ => (pe_nsetd (hu65 hr) (pv 1) (pv 2) (pe_callB call_lenN (by rfl) T.n_len boot_len (pa_cons (pv 1) pa_nil)) (by constructor <;> rfl))))))), (ds_seq (ds_own 1 den_nnew) (ds_retXX (dx_lc (vs := [2]) (den_iS (den_var 0)) (dg_name 2) (dx_setN 1 (den_var 2) (den_cb cd_lenN (den_acons (den_varB 1) den_anil))))))⟩
  exact h
theorem sc_least_sequence : FnScope ["sequence", "blocks", "count", "sights", "state", "row", "places", "leaders", "rows", "at", "later"] ["sequence"] (defScope s_least_sequence) := ⟨rfl, rfl, rfl, by decide +kernel, rfl, by decide +kernel, by decide +kernel⟩
set_option maxHeartbeats 4000000 in
theorem ok_least_sequence {f : Addr} {fd : FuncData} (Fn : Fun K "least_sequence" "least_sequence" s_least_sequence f fd) (T : Txt K mg ce C_Sequence C_BadSequence C_NotSteady C_OtherBase) {f_numbers_I : Addr} {fd_numbers_I : FuncData} (c_numbers_I : Cal P w K mg base "_numbers" 1 f_numbers_I fd_numbers_I ["sights"] (SpV K ce 1 [false] m_numbers_I)) {f_numbers_T : Addr} {fd_numbers_T : FuncData} (c_numbers_T : Cal P w K mg base "_numbers" 1 f_numbers_T fd_numbers_T ["sights"] (SpV K ce 1 [false] m_numbers_T)) {f_Sequence__init_ : Addr} {fd_Sequence__init_ : FuncData} (c_Sequence__init_ : CalCX P w K mg base C_Sequence "Sequence" 3 f_Sequence__init_ fd_Sequence__init_ ["self", "base", "rows", "outputs"] (SpI K ce 21 3 [false, false, false] m_Sequence__init_)) : FnOk P w K mg base (L2.CX P w) 5 f fd ["sequence"] (SpV K ce 1 [false] m_least_sequence) := by
  have nd := sc_least_sequence.nd
  have h := fn_okX (P := P) (w := w) (mg := mg) (base := base) (ce := ce) (k := 4) (ms := [false]) (g := g_least_sequence) Fn sc_least_sequence fun cdv A outer s H E hr => ⟨_, (pss_cons (ps_set (i := 1) nd rfl (by first | exact Or.inl rfl | exact Or.inr rfl) (pe_call c_numbers_I.ok (hr.mono (by decide)) (by rfl) c_numbers_I.m c_numbers_I.kp c_numbers_I.b .nil (passN (E := E)) (pa_cons (pe_fld (pv 0) rfl) pa_nil))) (pss_cons (ps_set (i := 2) nd rfl (by first | exact Or.inl rfl | exact Or.inr rfl) pe_int) (pss_cons (ps_while (passes_of rfl) (pt_cmpR op_gt (pe_op op_add (pe_callB (cr_max rfl) (by rfl) T.n_max boot_max (pa_cons (pv 1) pa_nil)) pe_int) (pv 2) (nomark _)) (pss_cons (ps_set (i := 2) nd rfl (by first | exact Or.inl rfl | exact Or.inr rfl) (pe_op op_add (pe_callB (cr_max rfl) (by rfl) T.n_max boot_max (pa_cons (pv 1) pa_nil)) pe_int)) (pss_cons (ps_set (i := 3) nd rfl (by first | exact Or.inl rfl | exact Or.inr rfl) (pe_lst pa_nil)) (pss_cons (ps_for (passes_of rfl) rfl (pi_enumT (by rfl) T.n_enumerate (pa_cons (pe_fld (pv 0) rfl) pa_nil)) (pg_tup rfl (pgs_cons (pg_name (i := 4) nd rfl (by first | exact Or.inl rfl | exact Or.inr rfl)) (pgs_cons (pg_name (i := 5) nd rfl (by first | exact Or.inl rfl | exact Or.inr rfl)) pgs_nil))) (pss_one (ps_expr (pe_bm PySem.F.plainAttrs_list PySem.F.slot_list_append PySem.F.type_list_append mt_append (pv 3) (pa_cons (pe_tup (pa_cons (pe_ix ix_seq (pv 1) (pv 4) (fun _ _ => rfl)) (pa_cons (pe_callTy call_tuple_of (by rfl) T.n_tuple boot_tuple (pa_cons (pe_lc (own := [("later", 10)]) rfl nd (pi_seq (pv 5)) (blkOk_by (by first | decide +kernel | kernel_rfl)) (fun _ _ _ _ _ => (pg_name (i := 10) nd rfl (by first | exact Or.inl rfl | exact Or.inr rfl))) (fun _ _ _ _ _ => pts_nil) (fun _ _ _ _ _ => (pe_ix ix_seq (pv 1) (pv 10) (fun _ _ => rfl)))) pa_nil)) pa_nil))) pa_nil))))) (pss_one (ps_set (i := 1) nd rfl (by first | exact Or.inl rfl | exact Or.inr rfl) (pe_call c_numbers_T.ok (hr.mono (by decide)) (by rfl) c_numbers_T.m c_numbers_T.kp c_numbers_T.b .nil (passN (E := E)) (pa_cons (pv 3) pa_nil)))))))) (pss_cons (ps_set (i := 6) nd rfl (by first | exact Or.inl rfl | exact Or.inr rfl) (pe_disp (pps_cons (pe_ix ix_seq (pv 1) pe_int (fun _ _ => rfl)) pe_int pps_nil) (by rfl) (by rfl) (fun z => by cases z) (by decide))) (pss_cons (ps_set (i := 7) nd rfl (by first | exact Or.inl rfl | exact Or.inr rfl) (pe_lst (pa_cons pe_int pa_nil))) (pss_cons (ps_set (i := 8) nd rfl (by first | exact Or.inl rfl | exact Or.inr rfl) (pe_lst pa_nil)) (pss_cons (ps_set (i := 9) nd rfl (by first | exact Or.inl rfl | exact Or.inr rfl) pe_int) (pss_cons (ps_while (passes_of rfl) (pt_cmpR op_lt (pv 9) (pe_callB call_len_seq (by rfl) T.n_len boot_len (pa_cons (pv 7) pa_nil)) (nomark _)) (pss_cons (ps_set (i := 5) nd rfl (by first | exact Or.inl rfl | exact Or.inr rfl) (pe_lst pa_nil)) (pss_cons (ps_for (passes_of rfl) rfl (pi_seq (pe_ix ix_seq (pe_fld (pv 0) rfl) (pe_ix ix_seq (pv 7) (pv 9) (fun _ _ => rfl)) (fun _ _ => rfl))) (pg_name (i := 10) nd rfl (by first | exact Or.inl rfl | exact Or.inr rfl)) (pss_cons (ps_if (pt_cmp (pc_dnotin (hu_of hr) (pe_ix ix_seq (pv 1) (pv 10) (fun _ _ => rfl)) (pv 6))) (pss_cons (ps_dput (hu_of hr) (pv 6) (pe_ix ix_seq (pv 1) (pv 10) (fun _ _ => rfl)) (pe_callB call_len_seq (by rfl) T.n_len boot_len (pa_cons (pv 7) pa_nil)) rfl) (pss_one (ps_expr (pe_bm PySem.F.plainAttrs_list PySem.F.slot_list_append PySem.F.type_list_append mt_append (pv 7) (pa_cons (pv 10) pa_nil))))) pss_nil) (pss_one (ps_expr (pe_bm PySem.F.plainAttrs_list PySem.F.slot_list_append PySem.F.type_list_append mt_append (pv 5) (pa_cons (pe_dget (hu_of hr) (pv 6) (pe_ix ix_seq (pv 1) (pv 10) (fun _ _ => rfl)) (fun _ _ => rfl)) pa_nil)))))) (pss_cons (ps_expr (pe_bm PySem.F.plainAttrs_list PySem.F.slot_list_append PySem.F.type_list_append mt_append (pv 8) (pa_cons (pv 5) pa_nil))) (pss_one (ps_aug (i := 9) nd rfl (by first | exact Or.inl rfl | exact Or.inr rfl) pe_int ip_add)))))) (pss_one (ps_ret (pe_make c_Sequence__init_.mak c_Sequence__init_.ok (hr.mono (by decide)) (by rfl) c_Sequence__init_.m c_Sequence__init_.b .nil (passes_call (takes_of rfl rfl rfl rfl) fun _ _ _ _ h => h) (pa_cons (pe_fld (pv 0) rfl) (pa_cons (pv 8) (pa_cons (pe_lc (own := [("state", 4)]) rfl nd (pi_seq (pv 7)) (blkOk_by (by first | decide +kernel | kernel_rfl)) (fun _ _ _ _ _ => (pg_name (i := 4) nd rfl (by first | exact Or.inl rfl | exact Or.inr rfl))) (fun _ _ _ _ _ => pts_nil) (fun _ _ _ _ _ => (pe_ix ix_seq (pe_fld (pv 0) rfl) (pv 4) (fun _ _ => rfl)))) pa_nil)))))))))))))), (ds_seq (ds_val 1 (den_call goW (dm_v (den_fld (c := 21) (j := 2) T.ce_Sequence rfl nd_Sequence T.cl_Sequence T.na_Sequence_outputs (den_varB 0)) dm_nil))) (ds_seq (ds_val 2 (den_int 0)) (ds_seq (ds_wipe [2, 3, 4, 5] (ds_while (den_tTest (DenV.b (den_op od_gt (DenV.b (den_op od_add (DenV.b (den_cb cd_max (den_acons (den_varB 1) den_anil))) (DenV.b (den_int 1)))) (den_varB 2)))) (ds_wipe [3, 4, 5] (ds_seq (ds_val 2 (den_op od_add (DenV.b (den_cb cd_max (den_acons (den_varB 1) den_anil))) (DenV.b (den_int 1)))) (ds_seq (ds_own 3 (den_lst den_avnil)) (ds_seq (ds_wipe [4, 5] (ds_for (is := [4, 5]) (den_iEnT (den_avcons (den_fld (c := 21) (j := 1) T.ce_Sequence rfl nd_Sequence T.cl_Sequence T.na_Sequence_rows (den_varB 0)) den_avnil)) (dg_tup (dgs_cons (dg_name 4) (dgs_cons (dg_name 5) dgs_nil))) (ds_wipe [4, 5] (ds_app 3 (DenF.v (den_tup (den_avcons (den_op od_get (den_varB 1) (den_varB 4)) (den_avcons (DenF.v (den_cbF cd_tup (den_acons (DenF.b (den_lc (vs := [10]) (den_iSc (den_varB 5)) (dg_name 10) den_tYes (den_op od_get (den_varB 1) (den_varB 10)))) den_anil))) den_avnil)))))))) (ds_frz 3 (ds_val 1 (den_call goW (dm_v (den_var 3) dm_nil)))))))))) (ds_seq (ds_own 6 (den_ione (den_op od_get (den_varB 1) (DenV.b (den_int 0))) (den_int 0))) (ds_seq (ds_own 7 (den_lst (den_avcons (den_int 0) den_avnil))) (ds_seq (ds_own 8 (den_lst den_avnil)) (ds_seq (ds_val 9 (den_int 0)) (ds_seq (ds_wipe [5, 9, 10] (ds_while (den_tTest (DenV.b (den_op od_lt (den_varB 9) (DenV.b (den_cb cd_len (den_acons (den_varB 7) den_anil)))))) (ds_wipe [5, 10] (ds_seq (ds_own 5 (den_lst den_avnil)) (ds_seq (ds_wipe [10] (ds_for (is := [10]) (den_iS (den_op od_get (DenV.b (den_fld (c := 21) (j := 1) T.ce_Sequence rfl nd_Sequence T.cl_Sequence T.na_Sequence_rows (den_varB 0))) (DenV.b (den_op od_get (den_varB 7) (den_varB 9))))) (dg_name 10) (ds_wipe [10] (ds_seq (ds_if (den_tB (DenV.b (den_dnin (DenV.b (den_op od_get (den_varB 1) (den_varB 10))) (den_varB 6)))) (ds_seq (ds_put 6 (den_cb cd_len (den_acons (den_varB 7) den_anil)) (DenV.b (den_op od_get (den_varB 1) (den_varB 10)))) (ds_app 7 (den_var 10))) ds_nil) (ds_app 5 (den_dget (den_varB 6) (DenV.b (den_op od_get (den_varB 1) (den_varB 10))))))))) (ds_seq (ds_frz 5 (ds_app 8 (den_var 5))) (ds_aug 9 (den_int 1) ai_add))))))) (ds_frz 8 (ds_ret (DenF.v (den_make (c := 21) T.ce_Sequence goW (dm_v (den_fld (c := 21) (j := 0) T.ce_Sequence rfl nd_Sequence T.cl_Sequence T.na_Sequence_base (den_varB 0)) (dm_v (den_var 8) (dm_v (DenF.v (den_lc (vs := [4]) (den_iSc (den_varB 7)) (dg_name 4) den_tYes (den_op od_get (DenV.b (den_fld (c := 21) (j := 2) T.ce_Sequence rfl nd_Sequence T.cl_Sequence T.na_Sequence_outputs (den_varB 0))) (den_varB 4)))) dm_nil)))))))))))))))⟩
  exact h
theorem sc_law_doubled : FnScope ["_law_rows_here", "_law_outputs", "_law_draws_here", "_law_size", "_law_base", "_law_found", "_law_s", "_law_row", "_law_d"] ["_law_rows_here", "_law_outputs", "_law_draws_here"] (defScope s_law_doubled) := ⟨rfl, rfl, rfl, by decide +kernel, rfl, by decide +kernel, by decide +kernel⟩
set_option maxHeartbeats 4000000 in
theorem ok_law_doubled {f : Addr} {fd : FuncData} (Fn : Fun K "_law_doubled" "_law_doubled" s_law_doubled f fd) (T : Txt K mg ce C_Sequence C_BadSequence C_NotSteady C_OtherBase)  : FnOk P w K mg base CX0 1 f fd ["_law_rows_here", "_law_outputs", "_law_draws_here"] (SpV K ce 3 [false, false, false] m_law_doubled) := by
  have nd := sc_law_doubled.nd
  have h := fn_ok (P := P) (w := w) (mg := mg) (base := base) (ce := ce) (k := 0) (ms := [false, false, false]) (g := g_law_doubled) Fn sc_law_doubled fun cdv A outer s H E hr => ⟨_, (pss_cons (ps_asg (pe_tup (pa_cons (pe_callB call_len_seq (by rfl) T.n_len boot_len (pa_cons (pv 0) pa_nil)) (pa_cons (pe_callB call_len_seq (by rfl) T.n_len boot_len (pa_cons (pe_ix ix_seq (pv 0) pe_int (fun _ _ => rfl)) pa_nil)) pa_nil))) (pg_tup rfl (pgs_cons (pg_name (i := 3) nd rfl (by first | exact Or.inl rfl | exact Or.inr rfl)) (pgs_cons (pg_name (i := 4) nd rfl (by first | exact Or.inl rfl | exact Or.inr rfl)) pgs_nil)))) (pss_cons (ps_set (i := 5) nd rfl (by first | exact Or.inl rfl | exact Or.inr rfl) (pe_lst pa_nil)) (pss_cons (ps_for PassesOwn.never rfl (pi_range1 (by rfl) T.n_range (pa_cons (pe_op op_mul pe_int (pv 3)) pa_nil)) (pg_name (i := 6) nd rfl (by first | exact Or.inl rfl | exact Or.inr rfl)) (pss_cons (ps_set (i := 7) nd rfl (by first | exact Or.inl rfl | exact Or.inr rfl) (pe_ix ix_seq (pv 0) (pe_op op_mod (pe_callTy call_int1 (by rfl) T.n_int boot_int (pa_cons (pv 6) pa_nil)) (pv 3)) (fun _ _ => rfl))) (pss_one (ps_expr (pe_bm PySem.F.plainAttrs_list PySem.F.slot_list_append PySem.F.type_list_append mt_append (pv 5) (pa_cons (pe_callTy call_tuple_of (by rfl) T.n_tuple boot_tuple (pa_cons (pe_lc (own := [("_law_d", 8)]) rfl nd (pi_range1 (by rfl) T.n_range (pa_cons (pv 4) pa_nil)) (blkOk_by (by first | decide +kernel | kernel_rfl)) (fun _ _ _ _ _ => (pg_name (i := 8) nd rfl (by first | exact Or.inl rfl | exact Or.inr rfl))) (fun _ _ _ _ _ => pts_nil) (fun _ _ _ _ _ => (pe_op op_add (pe_ix ix_seq (pv 7) (pv 8) (fun _ _ => rfl)) (pe_op op_mul (pv 3) (pe_op op_mod (pe_callTy call_int1 (by rfl) T.n_int boot_int (pa_cons (pe_ix ix_seq (pv 2) (pe_op op_mod (pe_op op_add (pe_op op_mul pe_int (pv 6)) (pv 8)) (pe_callB call_len_seq (by rfl) T.n_len boot_len (pa_cons (pv 2) pa_nil))) (fun _ _ => rfl)) pa_nil)) pe_int))))) pa_nil)) pa_nil)))))) (pss_one (ps_ret (pe_tup (pa_cons (pv 5) (pa_cons (pe_op op_cat (pe_callTy call_list_of (by rfl) T.n_list boot_list (pa_cons (pv 1) pa_nil)) (pe_callTy call_list_of (by rfl) T.n_list boot_list (pa_cons (pv 1) pa_nil))) pa_nil)))))))), (ds_seq (ds_parT [3, 4] rfl (dl_v (den_cb cd_len (den_acons (den_varB 0) den_anil)) (dl_v (den_cb cd_len (den_acons (DenV.b (den_op od_get (den_varB 0) (DenV.b (den_int 0)))) den_anil)) dl_nil))) (ds_seq (ds_own 5 (den_lst den_avnil)) (ds_seq (ds_wipe [6, 7] (ds_for (is := [6]) (den_iR1 (den_acons (DenV.b (den_op od_mul (DenV.b (den_int 2)) (den_varB 3))) den_anil)) (dg_name 6) (ds_wipe [6, 7] (ds_seq (ds_val 7 (den_op od_get (den_varB 0) (DenV.b (den_op od_mod (DenV.b (den_cb cd_int (den_acons (den_varB 6) den_anil))) (den_varB 3))))) (ds_app 5 (DenF.v (den_cbF cd_tup (den_acons (DenF.b (den_lc (vs := [8]) (DenI.c (den_iR1 (den_acons (den_varB 4) den_anil))) (dg_name 8) den_tYes (den_op od_add (DenV.b (den_op od_get (den_varB 7) (den_varB 8))) (DenV.b (den_op od_mul (den_varB 3) (DenV.b (den_op od_mod (DenV.b (den_cb cd_int (den_acons (DenV.b (den_op od_get (den_varB 2) (DenV.b (den_op od_mod (DenV.b (den_op od_add (DenV.b (den_op od_mul (DenV.b (den_int 3)) (den_varB 6))) (den_varB 8))) (DenV.b (den_cb cd_len (den_acons (den_varB 2) den_anil))))))) den_anil))) (DenV.b (den_int 2))))))))) den_anil)))))))) (ds_frz 5 (ds_ret (DenF.v (den_tup (den_avcons (den_var 5) (den_avcons (DenF.v (den_opF od_catL (DenF.b (den_cbF cd_list (den_acons (den_varB 1) den_anil))) (DenF.b (den_cbF cd_list (den_acons (den_varB 1) den_anil))))) den_avnil)))))))))⟩
  exact h
theorem sc_law_differing : FnScope ["_law_first", "_law_second", "_law_base", "_law_ways", "_law_pairs", "_law_at", "_law_one", "_law_two", "_law_d", "_law_later"] ["_law_first", "_law_second", "_law_base"] (defScope s_law_differing) := ⟨rfl, rfl, rfl, by decide +kernel, rfl, by decide +kernel, by decide +kernel⟩
set_option maxHeartbeats 4000000 in
theorem ok_law_differing {f : Addr} {fd : FuncData} (Fn : Fun K "_law_differing" "_law_differing" s_law_differing f fd) (T : Txt K mg ce C_Sequence C_BadSequence C_NotSteady C_OtherBase)  : FnOk P w K mg base CX0 1 f fd ["_law_first", "_law_second", "_law_base"] (SpV K ce 3 [false, false, false] m_law_differing) := by
  have nd := sc_law_differing.nd
  have h := fn_ok (P := P) (w := w) (mg := mg) (base := base) (ce := ce) (k := 0) (ms := [false, false, false]) (g := g_law_differing) Fn sc_law_differing fun cdv A outer s H E hr => ⟨_, (pss_cons (ps_par (i := 3) (j := 4) rfl nd rfl rfl (by decide) rfl rfl (pa_cons (pe_lst (pa_cons pe_int pa_nil)) (pa_cons (pe_lst (pa_cons (pe_tup (pa_cons pe_int (pa_cons pe_int pa_nil))) pa_nil)) pa_nil)) (by rfl)) (pss_cons (ps_for PassesOwn.never rfl (pi_range1 (by rfl) T.n_range (pa_cons (pe_op op_mul (pe_callB call_len_seq (by rfl) T.n_len boot_len (pa_cons (pe_ix ix_seq (pv 0) pe_int (fun _ _ => rfl)) pa_nil)) (pe_callB call_len_seq (by rfl) T.n_len boot_len (pa_cons (pe_ix ix_seq (pv 1) pe_int (fun _ _ => rfl)) pa_nil))) pa_nil)) (pg_name (i := 5) nd rfl (by first | exact Or.inl rfl | exact Or.inr rfl)) (pss_one (ps_if (pt_cmpR op_lt (pv 5) (pe_callB call_len_seq (by rfl) T.n_len boot_len (pa_cons (pv 4) pa_nil)) (nomark _)) (pss_cons (ps_asg (pe_ix ix_seq (pv 4) (pv 5) (fun _ _ => rfl)) (pg_tup rfl (pgs_cons (pg_name (i := 6) nd rfl (by first | exact Or.inl rfl | exact Or.inr rfl)) (pgs_cons (pg_name (i := 7) nd rfl (by first | exact Or.inl rfl | exact Or.inr rfl)) pgs_nil)))) (pss_cons (ps_if (pt_cmpR (op_neD hr.units) (pe_ix ix_seq (pe_ix ix_seq (pv 0) pe_int (fun _ _ => rfl)) (pv 6) (fun _ _ => rfl)) (pe_ix ix_seq (pe_ix ix_seq (pv 1) pe_int (fun _ _ => rfl)) (pv 7) (fun _ _ => rfl)) (nomark _)) (pss_one (ps_ret (pe_ix ix_seq (pv 3) (pv 5) (fun _ _ => rfl)))) pss_nil) (pss_one (ps_for PassesOwn.never rfl (pi_range1 (by rfl) T.n_range (pa_cons (pv 2) pa_nil)) (pg_name (i := 8) nd rfl (by first | exact Or.inl rfl | exact Or.inr rfl)) (pss_cons (ps_set (i := 9) nd rfl (by first | exact Or.inl rfl | exact Or.inr rfl) (pe_tup (pa_cons (pe_ix ix_seq (pe_ix ix_seq (pe_ix ix_seq (pv 0) pe_int (fun _ _ => rfl)) (pv 6) (fun _ _ => rfl)) (pv 8) (fun _ _ => rfl)) (pa_cons (pe_ix ix_seq (pe_ix ix_seq (pe_ix ix_seq (pv 1) pe_int (fun _ _ => rfl)) (pv 7) (fun _ _ => rfl)) (pv 8) (fun _ _ => rfl)) pa_nil)))) (pss_one (ps_if (pt_cmpR (op_notInD (hu65 hr)) (pv 9) (pv 4) (by rfl)) (pss_cons (ps_expr (pe_bm PySem.F.plainAttrs_list PySem.F.slot_list_append PySem.F.type_list_append mt_append (pv 4) (pa_cons (pv 9) pa_nil))) (pss_one (ps_expr (pe_bm PySem.F.plainAttrs_list PySem.F.slot_list_append PySem.F.type_list_append mt_append (pv 3) (pa_cons (pe_op op_add (pe_op op_mul (pe_ix ix_seq (pv 3) (pv 5) (fun _ _ => rfl)) (pv 2)) (pv 8)) pa_nil))))) pss_nil))))))) pss_nil))) (pss_one (ps_ret pe_non)))), (ds_seq (ds_par 3 4 (dl_o (den_lst (den_avcons (den_int 0) den_avnil)) (dl_o (den_lst (den_avcons (DenF.v (den_tup (den_avcons (den_int 0) (den_avcons (den_int 0) den_avnil)))) den_avnil)) dl_nil))) (ds_seq (ds_wipe [5, 6, 7, 8, 9] (ds_for (is := [5]) (den_iR1 (den_acons (DenV.b (den_op od_mul (DenV.b (den_cb cd_len (den_acons (DenV.b (den_op od_get (den_varB 0) (DenV.b (den_int 0)))) den_anil))) (DenV.b (den_cb cd_len (den_acons (DenV.b (den_op od_get (den_varB 1) (DenV.b (den_int 0)))) den_anil))))) den_anil)) (dg_name 5) (ds_wipe [5, 6, 7, 8, 9] (ds_wipe [6, 7, 8, 9] (ds_if (den_tTest (DenV.b (den_op od_lt (den_varB 5) (DenV.b (den_cb cd_len (den_acons (den_varB 4) den_anil)))))) (ds_seq (ds_asg (is := [6, 7]) (den_op od_get (den_varB 4) (den_varB 5)) (dg_tup (dgs_cons (dg_name 6) (dgs_cons (dg_name 7) dgs_nil)))) (ds_seq (ds_if (den_tTest (DenV.b (den_op od_neD (DenV.b (den_op od_get (DenV.b (den_op od_get (den_varB 0) (DenV.b (den_int 1)))) (den_varB 6))) (DenV.b (den_op od_get (DenV.b (den_op od_get (den_varB 1) (DenV.b (den_int 1)))) (den_varB 7)))))) (ds_ret (den_op od_get (den_varB 3) (den_varB 5))) ds_nil) (ds_wipe [8, 9] (ds_for (is := [8]) (den_iR1 (den_acons (den_varB 2) den_anil)) (dg_name 8) (ds_wipe [8, 9] (ds_seq (ds_val 9 (DenF.v (den_tup (den_avcons (den_op od_get (DenV.b (den_op od_get (DenV.b (den_op od_get (den_varB 0) (DenV.b (den_int 0)))) (den_varB 6))) (den_varB 8)) (den_avcons (den_op od_get (DenV.b (den_op od_get (DenV.b (den_op od_get (den_varB 1) (DenV.b (den_int 0)))) (den_varB 7))) (den_varB 8)) den_avnil))))) (ds_if (den_tTest (DenV.b (den_op od_ninDp (den_varB 9) (den_varB 4)))) (ds_seq (ds_app 4 (den_var 9)) (ds_app 3 (den_op od_add (DenV.b (den_op od_mul (DenV.b (den_op od_get (den_varB 3) (den_varB 5))) (den_varB 2))) (den_varB 8)))) ds_nil))))))) ds_nil))))) (ds_ret den_non)))⟩
  exact h
theorem sc_differing : FnScope ["first", "second", "digits", "number", "digit"] ["first", "second"] (defScope s_differing) := ⟨rfl, rfl, rfl, by decide +kernel, rfl, by decide +kernel, by decide +kernel⟩
set_option maxHeartbeats 4000000 in
theorem ok_differing {f : Addr} {fd : FuncData} (Fn : Fun K "differing" "differing" s_differing f fd) (T : Txt K mg ce C_Sequence C_BadSequence C_NotSteady C_OtherBase) {f_parting_digits : Addr} {fd_parting_digits : FuncData} (c_parting_digits : Cal P w K mg base "parting_digits" 1 f_parting_digits fd_parting_digits ["first", "one", "second", "two"] (SpV K ce 4 [true, false, true, false] m_parting_digits)) {f_least_sequence : Addr} {fd_least_sequence : FuncData} (c_least_sequence : CalX P w K mg base "least_sequence" 5 f_least_sequence fd_least_sequence ["sequence"] (SpV K ce 1 [false] m_least_sequence)) : FnOk P w K mg base (L2.CX P w) 6 f fd ["first", "second"] (SpV K ce 2 [false, false] m_differing) := by
  have nd := sc_differing.nd
  have h := fn_okX (P := P) (w := w) (mg := mg) (base := base) (ce := ce) (k := 5) (ms := [false, false]) (g := g_differing) Fn sc_differing fun cdv A outer s H E hr => ⟨_, (pss_cons (ps_if (pt_cmpR (op_neD hr.units) (pe_fld (pv 0) rfl) (pe_fld (pv 1) rfl) (nomark _)) (pss_one (ps_raise rfl (takes_of rfl rfl rfl rfl) (pmk_own PySem.F.excBase_ValueError T.x_OtherBase T.g_OtherBase T.k_OtherBase (raises_own T.b_OtherBase T.t_OtherBase) rfl))) pss_nil) (pss_cons (ps_set (i := 2) nd rfl (by first | exact Or.inl rfl | exact Or.inr rfl) (pe_call c_parting_digits.ok (hr.mono (by decide)) (by rfl) c_parting_digits.m c_parting_digits.kp c_parting_digits.b .nil (passN (E := E)) (pa_cons (pe_call c_least_sequence.ok (hr.mono (by decide)) (by rfl) c_least_sequence.m c_least_sequence.kp c_least_sequence.b .nil (passes_call (takes_of rfl rfl rfl rfl) fun _ _ _ _ h => h) (pa_cons (pv 0) pa_nil)) (pa_cons pe_int (pa_cons (pe_call c_least_sequence.ok (hr.mono (by decide)) (by rfl) c_least_sequence.m c_least_sequence.kp c_least_sequence.b .nil (passes_call (takes_of rfl rfl rfl rfl) fun _ _ _ _ h => h) (pa_cons (pv 1) pa_nil)) (pa_cons pe_int pa_nil)))))) (pss_cons (ps_if (pt_cmpR op_isN (pv 2) pe_non (nomark _)) (pss_one (ps_ret pe_non)) pss_nil) (pss_cons (ps_set (i := 3) nd rfl (by first | exact Or.inl rfl | exact Or.inr rfl) pe_int) (pss_cons (ps_for (passes_of rfl) rfl (pi_seq (pv 2)) (pg_name (i := 4) nd rfl (by first | exact Or.inl rfl | exact Or.inr rfl)) (pss_one (ps_set (i := 3) nd rfl (by first | exact Or.inl rfl | exact Or.inr rfl) (pe_op op_add (pe_op op_mul (pv 3) (pe_fld (pv 0) rfl)) (pv 4))))) (pss_one (ps_ret (pv 3)))))))), (ds_seq (ds_if (den_tTest (DenV.b (den_op od_neD (DenV.b (den_fld (c := 21) (j := 0) T.ce_Sequence rfl nd_Sequence T.cl_Sequence T.na_Sequence_base (den_varB 0))) (DenV.b (den_fld (c := 21) (j := 0) T.ce_Sequence rfl nd_Sequence T.cl_Sequence T.na_Sequence_base (den_varB 1)))))) (ds_raise (c := 7) T.ce_OtherBase) ds_nil) (ds_seq (ds_val 2 (den_call goW (dm_b (DenV.b (den_call goW (dm_v (den_var 0) dm_nil))) (dm_v (den_int 0) (dm_b (DenV.b (den_call goW (dm_v (den_var 1) dm_nil))) (dm_v (den_int 0) dm_nil)))))) (ds_seq (ds_if (den_tTest (DenV.b (den_op od_isN (den_varB 2) (DenV.b den_non)))) (ds_ret den_non) ds_nil) (ds_seq (ds_val 3 (den_int 0)) (ds_seq (ds_wipe [4] (ds_for (is := [4]) (den_iS (den_var 2)) (dg_name 4) (ds_wipe [4] (ds_val 3 (den_op od_add (DenV.b (den_op od_mul (den_varB 3) (DenV.b (den_fld (c := 21) (j := 0) T.ce_Sequence rfl nd_Sequence T.cl_Sequence T.na_Sequence_base (den_varB 0))))) (den_varB 4)))))) (ds_ret (den_var 3)))))))⟩
  exact h
theorem sc_same : FnScope ["first", "second"] ["first", "second"] (defScope s_same) := ⟨rfl, rfl, rfl, by decide +kernel, rfl, by decide +kernel, by decide +kernel⟩
set_option maxHeartbeats 4000000 in
theorem ok_same {f : Addr} {fd : FuncData} (Fn : Fun K "same" "same" s_same f fd) (T : Txt K mg ce C_Sequence C_BadSequence C_NotSteady C_OtherBase) {f_differing : Addr} {fd_differing : FuncData} (c_differing : CalX P w K mg base "differing" 6 f_differing fd_differing ["first", "second"] (SpV K ce 2 [false, false] m_differing)) : FnOk P w K mg base (L2.CX P w) 7 f fd ["first", "second"] (SpV K ce 2 [false, false] m_same) := by
  have nd := sc_same.nd
  have h := fn_okX (P := P) (w := w) (mg := mg) (base := base) (ce := ce) (k := 6) (ms := [false, false]) (g := g_same) Fn sc_same fun cdv A outer s H E hr => ⟨_, (pss_one (ps_ret (pe_cmpR op_isN (pe_call c_differing.ok (hr.mono (by decide)) (by rfl) c_differing.m c_differing.kp c_differing.b .nil (passes_call (takes_of rfl rfl rfl rfl) fun _ _ _ _ h => h) (pa_cons (pv 0) (pa_cons (pv 1) pa_nil))) pe_non (nomark _)))), (ds_ret (den_op od_isN (DenV.b (den_call goW (dm_v (den_var 0) (dm_v (den_var 1) dm_nil)))) (DenV.b den_non)))⟩
  exact h
theorem sc_law_refused : FnScope ["_law_word", "_law_first", "_law_second", "e"] ["_law_word", "_law_first", "_law_second"] (defScope s_law_refused) := ⟨rfl, rfl, rfl, by decide +kernel, rfl, by decide +kernel, by decide +kernel⟩
set_option maxHeartbeats 4000000 in
theorem ok_law_refused {f : Addr} {fd : FuncData} (Fn : Fun K "_law_refused" "_law_refused" s_law_refused f fd) (T : Txt K mg ce C_Sequence C_BadSequence C_NotSteady C_OtherBase) {f_same : Addr} {fd_same : FuncData} (c_same : CalX P w K mg base "same" 7 f_same fd_same ["first", "second"] (SpV K ce 2 [false, false] m_same)) {f_differing : Addr} {fd_differing : FuncData} (c_differing : CalX P w K mg base "differing" 6 f_differing fd_differing ["first", "second"] (SpV K ce 2 [false, false] m_differing)) : FnOk P w K mg base CX0 8 f fd ["_law_word", "_law_first", "_law_second"] (SpV K ce 3 [false, false, false] m_law_refused) := by
  have nd := sc_law_refused.nd
  have h := fn_ok (P := P) (w := w) (mg := mg) (base := base) (ce := ce) (k := 7) (ms := [false, false, false]) (g := g_law_refused) Fn sc_law_refused fun cdv A outer s H E hr => ⟨_, (pss_cons (ps_try_as (i := 3) (c := .ref C_OtherBase) rfl rfl nd rfl rfl ⟨rfl, by decide, .inl T.g_OtherBase⟩ takes0 (fun W pn xe tk _ => (pss_one (ps_if (pt_cmpR (op_eqD hr.units) (pv 0) pe_str (nomark _)) (pss_one (ps_expr (pe_callS c_same.ok (hr.mono (by decide)) (by rfl) c_same.m c_same.kp c_same.b (fun σ => passAt tk σ) (pa_cons (pv 1) (pa_cons (pv 2) pa_nil))))) (pss_one (ps_expr (pe_callS c_differing.ok (hr.mono (by decide)) (by rfl) c_differing.m c_differing.kp c_differing.b (fun σ => passAt tk σ) (pa_cons (pv 1) (pa_cons (pv 2) pa_nil)))))))) (fun a oe cls d pn hz hf => (pss_one (ps_ret (pe_and (pe_callB (call_isG hz hf) (by rfl) T.n_isinstance boot_isinstance (pa_cons (pv 3) (pa_cons (pe_bltn (v := .ty "ValueError") (by rfl) T.n_ValueError (by decide +kernel) rfl) pa_nil))) (pe_one (pe_not (pe_callB (call_isG hz hf) (by rfl) T.n_isinstance boot_isinstance (pa_cons (pv 3) (pa_cons (pe_glob (v := .ref C_BadSequence) (by rfl) T.g_BadSequence rfl) pa_nil)))))))))) (pss_one (ps_ret pe_bl))), (ds_seq (ds_tryAs (i := 3) (fun q => by cases q) (fun c h => by (have h2 : c = 7 := by simpa [isub] using h); rcases h2 with rfl; exact ⟨C_OtherBase, _, T.ce_OtherBase, T.exm_OtherBase_OtherBase, fun a => (du_ret (du_andV (du_is T.ec_OtherBase (fun u h => h) T.kit_OtherBase_ValueError) (du_notV (du_is T.ec_OtherBase (fun u h => h) T.kit_OtherBase_BadSequence))))⟩) (dq_if (den_tTest (DenV.b (den_op od_eqD (den_varB 0) (DenV.b (den_str "same"))))) (dq_expr (den_callQ (dm_v (den_var 1) (dm_v (den_var 2) dm_nil)))) (dq_expr (den_callQ (dm_v (den_var 1) (dm_v (den_var 2) dm_nil)))))) (ds_ret (den_bl false)))⟩
  exact h
theorem sc_digits_below : FnScope ["n", "base", "found"] ["n", "base"] (defScope s_digits_below) := ⟨rfl, rfl, rfl, by decide +kernel, rfl, by decide +kernel, by decide +kernel⟩
set_option maxHeartbeats 4000000 in
theorem ok_digits_below {f : Addr} {fd : FuncData} (Fn : Fun K "digits_below" "digits_below" s_digits_below f fd) (T : Txt K mg ce C_Sequence C_BadSequence C_NotSteady C_OtherBase)  : FnOk P w K mg base CX0 1 f fd ["n", "base"] (SpV K ce 2 [false, false] m_digits_below) := by
  have nd := sc_digits_below.nd
  have h := fn_ok (P := P) (w := w) (mg := mg) (base := base) (ce := ce) (k := 0) (ms := [false, false]) (g := g_digits_below) Fn sc_digits_below fun cdv A outer s H E hr => ⟨_, (pss_cons (ps_set (i := 2) nd rfl (by first | exact Or.inl rfl | exact Or.inr rfl) (pe_lst pa_nil)) (pss_cons (ps_while PassesOwn.never (pt_cmpR op_gt (pv 0) pe_int (nomark _)) (pss_cons (ps_expr (pe_bm PySem.F.plainAttrs_list PySem.F.slot_list_append PySem.F.type_list_append mt_append (pv 2) (pa_cons (pe_op op_mod (pv 0) (pv 1)) pa_nil))) (pss_one (ps_set (i := 0) nd rfl (by first | exact Or.inl rfl | exact Or.inr rfl) (pe_op op_fdiv (pv 0) (pv 1)))))) (pss_one (ps_ret (pe_revL (pv 2)))))), (ds_seq (ds_own 2 (den_lst den_avnil)) (ds_seq (ds_wipe [0] (ds_while (den_tTest (DenV.b (den_op od_gt (den_varB 0) (DenV.b (den_int 0))))) (ds_seq (ds_app 2 (den_op od_mod (den_varB 0) (den_varB 1))) (ds_val 0 (den_op od_fdiv (den_varB 0) (den_varB 1)))))) (ds_ret (DenF.v (den_revL (den_varB 2))))))⟩
  exact h
theorem sc_Sequence_state : FnScope ["self", "n", "state", "digit"] ["self", "n"] (defScope s_Sequence_state) := ⟨rfl, rfl, rfl, by decide +kernel, rfl, by decide +kernel, by decide +kernel⟩
set_option maxHeartbeats 4000000 in
theorem ok_Sequence_state {f : Addr} {fd : FuncData} (Fn : Fun K "state" "Sequence.state" s_Sequence_state f fd) (T : Txt K mg ce C_Sequence C_BadSequence C_NotSteady C_OtherBase) {f_digits_below : Addr} {fd_digits_below : FuncData} (c_digits_below : Cal P w K mg base "digits_below" 1 f_digits_below fd_digits_below ["n", "base"] (SpV K ce 2 [false, false] m_digits_below)) : FnOk P w K mg base CX0 2 f fd ["self", "n"] (SpV K ce 2 [false, false] m_Sequence_state) := by
  have nd := sc_Sequence_state.nd
  have h := fn_ok (P := P) (w := w) (mg := mg) (base := base) (ce := ce) (k := 1) (ms := [false, false]) (g := g_Sequence_state) Fn sc_Sequence_state fun cdv A outer s H E hr => ⟨_, (pss_cons (ps_set (i := 2) nd rfl (by first | exact Or.inl rfl | exact Or.inr rfl) pe_int) (pss_cons (ps_for PassesOwn.never rfl (pi_seq (pe_call c_digits_below.ok (hr.mono (by decide)) (by rfl) c_digits_below.m c_digits_below.kp c_digits_below.b .nil pass0 (pa_cons (pv 1) (pa_cons (pe_fld (pv 0) rfl) pa_nil)))) (pg_name (i := 3) nd rfl (by first | exact Or.inl rfl | exact Or.inr rfl)) (pss_one (ps_set (i := 2) nd rfl (by first | exact Or.inl rfl | exact Or.inr rfl) (pe_ix ix_seq (pe_ix ix_seq (pe_fld (pv 0) rfl) (pv 2) (fun _ _ => rfl)) (pv 3) (fun _ _ => rfl))))) (pss_one (ps_ret (pv 2))))), (ds_seq (ds_val 2 (den_int 0)) (ds_seq (ds_wipe [3] (ds_for (is := [3]) (den_iS (den_call noW (dm_v (den_var 1) (dm_v (den_fld (c := 21) (j := 0) T.ce_Sequence rfl nd_Sequence T.cl_Sequence T.na_Sequence_base (den_varB 0)) dm_nil)))) (dg_name 3) (ds_wipe [3] (ds_val 2 (den_op od_get (DenV.b (den_op od_get (DenV.b (den_fld (c := 21) (j := 1) T.ce_Sequence rfl nd_Sequence T.cl_Sequence T.na_Sequence_rows (den_varB 0))) (den_varB 2))) (den_varB 3)))))) (ds_ret (den_var 2))))⟩
  exact h
theorem sc_Sequence_at : FnScope ["self", "n"] ["self", "n"] (defScope s_Sequence_at) := ⟨rfl, rfl, rfl, by decide +kernel, rfl, by decide +kernel, by decide +kernel⟩
set_option maxHeartbeats 4000000 in
theorem ok_Sequence_at {f : Addr} {fd : FuncData} (Fn : Fun K "at" "Sequence.at" s_Sequence_at f fd) (T : Txt K mg ce C_Sequence C_BadSequence C_NotSteady C_OtherBase) {f_Sequence_state : Addr} {fd_Sequence_state : FuncData} (c_Sequence_state : CalM P w K mg base C_Sequence "state" 2 f_Sequence_state fd_Sequence_state ["self", "n"] (SpV K ce 2 [false, false] m_Sequence_state)) : FnOk P w K mg base CX0 3 f fd ["self", "n"] (SpV K ce 2 [false, false] m_Sequence_at) := by
  have nd := sc_Sequence_at.nd
  have h := fn_ok (P := P) (w := w) (mg := mg) (base := base) (ce := ce) (k := 2) (ms := [false, false]) (g := g_Sequence_at) Fn sc_Sequence_at fun cdv A outer s H E hr => ⟨_, (pss_one (ps_ret (pe_ix ix_seq (pe_fld (pv 0) rfl) (pe_meth (pv 0) T.cl_Sequence c_Sequence_state.m c_Sequence_state.ok (hr.mono (by decide)) c_Sequence_state.b .nil pass0 (pa_cons (pv 1) pa_nil)) (fun _ _ => rfl)))), (ds_ret (den_op od_get (DenV.b (den_fld (c := 21) (j := 2) T.ce_Sequence rfl nd_Sequence T.cl_Sequence T.na_Sequence_outputs (den_varB 0))) (DenV.b (den_meth (c := 21) T.ce_Sequence (by decide +kernel) noW (den_var 0) (dm_v (den_var 1) dm_nil)))))⟩
  exact h
theorem sc_law : FnScope ["_law_script", "_law_draws_here", "_law_base", "_law_rows_here", "_law_outputs", "_law_sequence", "_law_due", "_law_least_here", "_law_wide", "_law_told", "_law_other", "_law_again", "_law_at", "_law_changed", "_law_second", "_law_drawn_here", "_law_number", "_law_third", "_law_strange", "_law_n"] ["_law_script"] (defScope s_law) := ⟨rfl, rfl, rfl, by decide +kernel, rfl, by decide +kernel, by decide +kernel⟩
set_option maxHeartbeats 4000000 in
theorem ok_law {f : Addr} {fd : FuncData} (Fn : Fun K "law" "law" s_law f fd) (T : Txt K mg ce C_Sequence C_BadSequence C_NotSteady C_OtherBase) {f_law_draws : Addr} {fd_law_draws : FuncData} (c_law_draws : Cal P w K mg base "_law_draws" 1 f_law_draws fd_law_draws ["_law_script", "_law_many"] (SpV K ce 2 [false, false] m_law_draws)) {f_law_drawn : Addr} {fd_law_drawn : FuncData} (c_law_drawn : Cal P w K mg base "_law_drawn" 2 f_law_drawn fd_law_drawn ["_law_draws_here", "_law_most"] (SpV K ce 2 [false, false] m_law_drawn)) {f_Sequence__init_ : Addr} {fd_Sequence__init_ : FuncData} (c_Sequence__init_ : CalCX P w K mg base C_Sequence "Sequence" 3 f_Sequence__init_ fd_Sequence__init_ ["self", "base", "rows", "outputs"] (SpI K ce 21 3 [false, false, false] m_Sequence__init_)) {f_law_least : Addr} {fd_law_least : FuncData} (c_law_least : Cal P w K mg base "_law_least" 2 f_law_least fd_law_least ["_law_rows_here", "_law_outputs"] (SpV K ce 2 [false, false] m_law_least)) {f_least_sequence : Addr} {fd_least_sequence : FuncData} (c_least_sequence : CalX P w K mg base "least_sequence" 5 f_least_sequence fd_least_sequence ["sequence"] (SpV K ce 1 [false] m_least_sequence)) {f_law_doubled : Addr} {fd_law_doubled : FuncData} (c_law_doubled : Cal P w K mg base "_law_doubled" 1 f_law_doubled fd_law_doubled ["_law_rows_here", "_law_outputs", "_law_draws_here"] (SpV K ce 3 [false, false, false] m_law_doubled)) {f_same : Addr} {fd_same : FuncData} (c_same : CalX P w K mg base "same" 7 f_same fd_same ["first", "second"] (SpV K ce 2 [false, false] m_same)) {f_differing : Addr} {fd_differing : FuncData} (c_differing : CalX P w K mg base "differing" 6 f_differing fd_differing ["first", "second"] (SpV K ce 2 [false, false] m_differing)) {f_law_differing : Addr} {fd_law_differing : FuncData} (c_law_differing : Cal P w K mg base "_law_differing" 1 f_law_differing fd_law_differing ["_law_first", "_law_second", "_law_base"] (SpV K ce 3 [false, false, false] m_law_differing)) {f_Sequence_at : Addr} {fd_Sequence_at : FuncData} (c_Sequence_at : CalM P w K mg base C_Sequence "at" 3 f_Sequence_at fd_Sequence_at ["self", "n"] (SpV K ce 2 [false, false] m_Sequence_at)) {f_law_refused : Addr} {fd_law_refused : FuncData} (c_law_refused : Cal P w K mg base "_law_refused" 8 f_law_refused fd_law_refused ["_law_word", "_law_first", "_law_second"] (SpV K ce 3 [false, false, false] m_law_refused)) : FnOk P w K mg base CX0 9 f fd ["_law_script"] (SpV K ce 1 [false] m_law) := by
  have nd := sc_law.nd
  have h := fn_ok (P := P) (w := w) (mg := mg) (base := base) (ce := ce) (k := 8) (ms := [false]) (g := g_law) Fn sc_law fun cdv A outer s H E hr => ⟨_, (pss_cons (ps_set (i := 1) nd rfl (by first | exact Or.inl rfl | exact Or.inr rfl) (pe_call c_law_draws.ok (hr.mono (by decide)) (by rfl) c_law_draws.m c_law_draws.kp c_law_draws.b .nil pass0 (pa_cons (pv 0) (pa_cons pe_int pa_nil)))) (pss_cons (ps_asg (pe_call c_law_drawn.ok (hr.mono (by decide)) (by rfl) c_law_drawn.m c_law_drawn.kp c_law_drawn.b .nil pass0 (pa_cons (pv 1) (pa_cons (pe_ix ix_seq (pe_lst (pa_cons pe_int (pa_cons pe_int pa_nil))) (pe_callTy call_int1 (by rfl) T.n_int boot_int (pa_cons (pe_cmpR (op_eqD hr.units) (pe_op op_mod (pe_callTy call_int1 (by rfl) T.n_int boot_int (pa_cons (pe_ix ix_seq (pv 1) pe_int (fun _ _ => rfl)) pa_nil)) pe_int) pe_int (nomark _)) pa_nil)) (fun _ _ => rfl)) pa_nil))) (pg_tup rfl (pgs_cons (pg_name (i := 2) nd rfl (by first | exact Or.inl rfl | exact Or.inr rfl)) (pgs_cons (pg_name (i := 3) nd rfl (by first | exact Or.inl rfl | exact Or.inr rfl)) (pgs_cons (pg_name (i := 4) nd rfl (by first | exact Or.inl rfl | exact Or.inr rfl)) pgs_nil))))) (pss_cons (ps_set (i := 5) nd rfl (by first | exact Or.inl rfl | exact Or.inr rfl) (pe_make c_Sequence__init_.mak c_Sequence__init_.ok (hr.mono (by decide)) (by rfl) c_Sequence__init_.m c_Sequence__init_.b .nil passL (pa_cons (pv 2) (pa_cons (pv 3) (pa_cons (pv 4) pa_nil))))) (pss_cons (ps_set (i := 6) nd rfl (by first | exact Or.inl rfl | exact Or.inr rfl) (pe_call c_law_least.ok (hr.mono (by decide)) (by rfl) c_law_least.m c_law_least.kp c_law_least.b .nil pass0 (pa_cons (pv 3) (pa_cons (pv 4) pa_nil)))) (pss_cons (ps_set (i := 7) nd rfl (by first | exact Or.inl rfl | exact Or.inr rfl) (pe_call c_least_sequence.ok (hr.mono (by decide)) (by rfl) c_least_sequence.m c_least_sequence.kp c_least_sequence.b .nil passL (pa_cons (pv 5) pa_nil))) (pss_cons (ps_if (pt_cmpR (op_neD hr.units) (pe_tup (pa_cons (pe_fld (pv 7) rfl) (pa_cons (pe_fld (pv 7) rfl) (pa_cons (pe_fld (pv 7) rfl) pa_nil)))) (pe_op op_catA (pe_tup (pa_cons (pv 2) pa_nil)) (pv 6)) (nomark _)) (pss_one (ps_ret pe_bl)) pss_nil) (pss_cons (ps_if (pt_cmpR op_gt (pe_callB call_len_seq (by rfl) T.n_len boot_len (pa_cons (pv 3) pa_nil)) pe_int (nomark _)) (pss_one (ps_ret pe_bl)) pss_nil) (pss_cons (ps_asg (pe_call c_law_doubled.ok (hr.mono (by decide)) (by rfl) c_law_doubled.m c_law_doubled.kp c_law_doubled.b .nil pass0 (pa_cons (pv 3) (pa_cons (pv 4) (pa_cons (pe_slice sl_list (pv 1) (po_some pe_int) po_none) pa_nil)))) (pg_tup rfl (pgs_cons (pg_name (i := 8) nd rfl (by first | exact Or.inl rfl | exact Or.inr rfl)) (pgs_cons (pg_name (i := 9) nd rfl (by first | exact Or.inl rfl | exact Or.inr rfl)) pgs_nil)))) (pss_cons (ps_set (i := 10) nd rfl (by first | exact Or.inl rfl | exact Or.inr rfl) (pe_make c_Sequence__init_.mak c_Sequence__init_.ok (hr.mono (by decide)) (by rfl) c_Sequence__init_.m c_Sequence__init_.b .nil passL (pa_cons (pv 2) (pa_cons (pv 8) (pa_cons (pv 9) pa_nil))))) (pss_cons (ps_set (i := 11) nd rfl (by first | exact Or.inl rfl | exact Or.inr rfl) (pe_call c_least_sequence.ok (hr.mono (by decide)) (by rfl) c_least_sequence.m c_least_sequence.kp c_least_sequence.b .nil passL (pa_cons (pv 10) pa_nil))) (pss_cons (ps_if (PW.pt (pw_or (pt_cmpR (op_neD hr.units) (pe_tup (pa_cons (pe_fld (pv 11) rfl) (pa_cons (pe_fld (pv 11) rfl) pa_nil))) (pv 6) (nomark _)) (pw_or (pt_not (pt_val (pe_call c_same.ok (hr.mono (by decide)) (by rfl) c_same.m c_same.kp c_same.b .nil passL (pa_cons (pv 5) (pa_cons (pv 10) pa_nil))))) (pw_or1 (pt_cmpR op_notN (pe_call c_differing.ok (hr.mono (by decide)) (by rfl) c_differing.m c_differing.kp c_differing.b .nil passL (pa_cons (pv 5) (pa_cons (pv 10) pa_nil))) pe_non (nomark _)))))) (pss_one (ps_ret pe_bl)) pss_nil) (pss_cons (ps_set (i := 12) nd rfl (by first | exact Or.inl rfl | exact Or.inr rfl) (pe_op op_mod (pe_callTy call_int1 (by rfl) T.n_int boot_int (pa_cons (pe_ix ix_seq (pv 1) pe_int (fun _ _ => rfl)) pa_nil)) (pe_callB call_len_seq (by rfl) T.n_len boot_len (pa_cons (pv 3) pa_nil)))) (pss_cons (ps_set (i := 13) nd rfl (by first | exact Or.inl rfl | exact Or.inr rfl) (pe_op op_catA (pe_op op_catA (pe_slice sl_tupA (pv 4) po_none (po_some (pv 12))) (pe_tup (pa_cons (pe_op op_mod (pe_callTy call_int1 (by rfl) T.n_int boot_int (pa_cons (pe_ix ix_seq (pv 1) pe_int (fun _ _ => rfl)) pa_nil)) pe_int) pa_nil))) (pe_slice sl_tupA (pv 4) (po_some (pe_op op_add (pv 12) pe_int)) po_none))) (pss_cons (ps_set (i := 14) nd rfl (by first | exact Or.inl rfl | exact Or.inr rfl) (pe_tup (pa_cons (pv 3) (pa_cons (pv 13) pa_nil)))) (pss_cons (ps_if (pt_cmpR (op_eqD hr.units) (pe_op op_mod (pe_callTy call_int1 (by rfl) T.n_int boot_int (pa_cons (pe_ix ix_seq (pv 1) pe_int (fun _ _ => rfl)) pa_nil)) pe_int) pe_int (nomark _)) (pss_cons (ps_set (i := 15) nd rfl (by first | exact Or.inl rfl | exact Or.inr rfl) (pe_call c_law_drawn.ok (hr.mono (by decide)) (by rfl) c_law_drawn.m c_law_drawn.kp c_law_drawn.b .nil pass0 (pa_cons (pe_op op_cat (pe_lst (pa_cons (pe_op op_sub (pv 2) pe_int) pa_nil)) (pe_slice sl_list (pv 1) (po_some pe_int) po_none)) (pa_cons pe_int pa_nil)))) (pss_one (ps_set (i := 14) nd rfl (by first | exact Or.inl rfl | exact Or.inr rfl) (pe_tup (pa_cons (pe_ix ix_seq (pv 15) pe_int (fun _ _ => rfl)) (pa_cons (pe_ix ix_seq (pv 15) pe_int (fun _ _ => rfl)) pa_nil)))))) pss_nil) (pss_cons (ps_set (i := 16) nd rfl (by first | exact Or.inl rfl | exact Or.inr rfl) (pe_call c_law_differing.ok (hr.mono (by decide)) (by rfl) c_law_differing.m c_law_differing.kp c_law_differing.b .nil pass0 (pa_cons (pe_tup (pa_cons (pv 3) (pa_cons (pv 4) pa_nil))) (pa_cons (pv 14) (pa_cons (pv 2) pa_nil))))) (pss_cons (ps_set (i := 17) nd rfl (by first | exact Or.inl rfl | exact Or.inr rfl) (pe_make c_Sequence__init_.mak c_Sequence__init_.ok (hr.mono (by decide)) (by rfl) c_Sequence__init_.m c_Sequence__init_.b .nil passL (pa_cons (pv 2) (pa_cons (pe_ix ix_seq (pv 14) pe_int (fun _ _ => rfl)) (pa_cons (pe_ix ix_seq (pv 14) pe_int (fun _ _ => rfl)) pa_nil))))) (pss_cons (ps_set (i := 9) nd rfl (by first | exact Or.inl rfl | exact Or.inr rfl) (pe_call c_same.ok (hr.mono (by decide)) (by rfl) c_same.m c_same.kp c_same.b .nil passL (pa_cons (pv 5) (pa_cons (pv 17) pa_nil)))) (pss_cons (ps_if (PW.pt (pw_or (pt_cmpR (op_neD hr.units) (pe_call c_differing.ok (hr.mono (by decide)) (by rfl) c_differing.m c_differing.kp c_differing.b .nil passL (pa_cons (pv 5) (pa_cons (pv 17) pa_nil))) (pv 16) (nomark _)) (pw_or (pt_not (pt_val (pe_callB call_isi (by rfl) T.n_isinstance boot_isinstance (pa_cons (pv 9) (pa_cons (pe_bltn (v := .ty "bool") (by rfl) T.n_bool boot_bool rfl) pa_nil))))) (pw_or1 (pt_cmpR (op_neD hr.units) (pv 9) (pe_cmpR op_isN (pv 16) pe_non (nomark _)) (nomark _)))))) (pss_one (ps_ret pe_bl)) pss_nil) (pss_cons (ps_if (PW.pt (pw_and (pt_cmpR op_notN (pv 16) pe_non (nomark _)) (pw_and1 (pt_cmpR (op_notInDT (hu65 hr)) (pe_slice sl_list (pe_lc (own := [("_law_n", 19)]) rfl nd (pi_range1 (by rfl) T.n_range (pa_cons (pe_op op_add (pe_callB (call_min2 rfl) (by rfl) T.n_min boot_min (pa_cons (pv 16) (pa_cons pe_int pa_nil))) pe_int) pa_nil)) (blkOk_by (by first | decide +kernel | kernel_rfl)) (fun _ _ _ _ _ => (pg_name (i := 19) nd rfl (by first | exact Or.inl rfl | exact Or.inr rfl))) (fun _ _ _ _ _ => (pts_one (pt_cmpR (op_neD hr.units) (pe_meth (pv 5) T.cl_Sequence c_Sequence_at.m c_Sequence_at.ok (hr.mono (by decide)) c_Sequence_at.b .nil pass0 (pa_cons (pv 19) pa_nil)) (pe_meth (pv 17) T.cl_Sequence c_Sequence_at.m c_Sequence_at.ok (hr.mono (by decide)) c_Sequence_at.b .nil pass0 (pa_cons (pv 19) pa_nil)) (nomark _)))) (fun _ _ _ _ _ => (pv 19))) po_none (po_some pe_int)) (pe_tup (pa_cons (pe_lst (pa_cons (pv 16) pa_nil)) (pa_cons (pe_lst pa_nil) pa_nil))) (by rfl))))) (pss_one (ps_ret pe_bl)) pss_nil) (pss_cons (ps_set (i := 18) nd rfl (by first | exact Or.inl rfl | exact Or.inr rfl) (pe_make c_Sequence__init_.mak c_Sequence__init_.ok (hr.mono (by decide)) (by rfl) c_Sequence__init_.m c_Sequence__init_.b .nil passL (pa_cons (pe_op op_add pe_int (pe_op op_mod (pe_callTy call_int1 (by rfl) T.n_int boot_int (pa_cons (pe_op op_sub (pv 2) pe_int) pa_nil)) pe_int)) (pa_cons (pe_lst (pa_cons (pe_op op_repTA (pe_tup (pa_cons pe_int pa_nil)) (pe_op op_add pe_int (pe_op op_mod (pe_callTy call_int1 (by rfl) T.n_int boot_int (pa_cons (pe_op op_sub (pv 2) pe_int) pa_nil)) pe_int))) pa_nil)) (pa_cons (pe_lst (pa_cons pe_int pa_nil)) pa_nil))))) (pss_one (ps_ret (pe_and (pe_call c_law_refused.ok (hr.mono (by decide)) (by rfl) c_law_refused.m c_law_refused.kp c_law_refused.b .nil pass0 (pa_cons pe_str (pa_cons (pv 5) (pa_cons (pv 18) pa_nil)))) (pe_one (pe_call c_law_refused.ok (hr.mono (by decide)) (by rfl) c_law_refused.m c_law_refused.kp c_law_refused.b .nil pass0 (pa_cons pe_str (pa_cons (pv 5) (pa_cons (pv 18) pa_nil))))))))))))))))))))))))))))), (ds_seq (ds_val 1 (den_call noW (dm_v (den_var 0) (dm_v (den_int 60) dm_nil)))) (ds_seq (ds_asg (is := [2, 3, 4]) (den_call noW (dm_v (den_var 1) (dm_v (den_op od_get (DenF.b (den_lst (den_avcons (den_int 12) (den_avcons (den_int 120) den_avnil)))) (DenV.b (den_cb cd_int (den_acons (DenV.b (den_op od_eqD (DenV.b (den_op od_mod (DenV.b (den_cb cd_int (den_acons (DenV.b (den_op od_get (den_varB 1) (DenV.b (den_int 55)))) den_anil))) (DenV.b (den_int 20)))) (DenV.b (den_int 0)))) den_anil)))) dm_nil))) (dg_tup (dgs_cons (dg_name 2) (dgs_cons (dg_name 3) (dgs_cons (dg_name 4) dgs_nil))))) (ds_seq (ds_val 5 (DenF.v (den_make (c := 21) T.ce_Sequence noW (dm_v (den_var 2) (dm_v (den_var 3) (dm_v (den_var 4) dm_nil)))))) (ds_seq (ds_val 6 (den_call noW (dm_v (den_var 3) (dm_v (den_var 4) dm_nil)))) (ds_seq (ds_val 7 (den_call noW (dm_v (den_var 5) dm_nil))) (ds_seq (ds_if (den_tTest (DenV.b (den_op od_neD (DenF.b (den_tup (den_avcons (den_fld (c := 21) (j := 0) T.ce_Sequence rfl nd_Sequence T.cl_Sequence T.na_Sequence_base (den_varB 7)) (den_avcons (den_fld (c := 21) (j := 1) T.ce_Sequence rfl nd_Sequence T.cl_Sequence T.na_Sequence_rows (den_varB 7)) (den_avcons (den_fld (c := 21) (j := 2) T.ce_Sequence rfl nd_Sequence T.cl_Sequence T.na_Sequence_outputs (den_varB 7)) den_avnil))))) (DenV.b (den_opV od_catT (DenF.v (den_tup (den_avcons (den_var 2) den_avnil))) (den_var 6)))))) (ds_ret (den_bl false)) ds_nil) (ds_seq (ds_if (den_tTest (DenV.b (den_op od_gt (DenV.b (den_cb cd_len (den_acons (den_varB 3) den_anil))) (DenV.b (den_int 12))))) (ds_ret (den_bl true)) ds_nil) (ds_seq (ds_asg (is := [8, 9]) (den_call noW (dm_v (den_var 3) (dm_v (den_var 4) (dm_v (DenF.v (den_slL (den_varB 1) (den_oat (DenV.b (den_int 20))) den_ono)) dm_nil)))) (dg_tup (dgs_cons (dg_name 8) (dgs_cons (dg_name 9) dgs_nil)))) (ds_seq (ds_val 10 (DenF.v (den_make (c := 21) T.ce_Sequence noW (dm_v (den_var 2) (dm_v (den_var 8) (dm_v (den_var 9) dm_nil)))))) (ds_seq (ds_val 11 (den_call noW (dm_v (den_var 10) dm_nil))) (ds_seq (ds_if (den_or (den_tTest (DenV.b (den_op od_neD (DenF.b (den_tup (den_avcons (den_fld (c := 21) (j := 1) T.ce_Sequence rfl nd_Sequence T.cl_Sequence T.na_Sequence_rows (den_varB 11)) (den_avcons (den_fld (c := 21) (j := 2) T.ce_Sequence rfl nd_Sequence T.cl_Sequence T.na_Sequence_outputs (den_varB 11)) den_avnil)))) (den_varB 6)))) (den_or (den_not (den_tB (DenV.b (den_call noW (dm_v (den_var 5) (dm_v (den_var 10) dm_nil)))))) (den_tTest (DenV.b (den_op od_notN (DenV.b (den_call noW (dm_v (den_var 5) (dm_v (den_var 10) dm_nil)))) (DenV.b den_non)))))) (ds_ret (den_bl false)) ds_nil) (ds_seq (ds_val 12 (den_op od_mod (DenV.b (den_cb cd_int (den_acons (DenV.b (den_op od_get (den_varB 1) (DenV.b (den_int 40)))) den_anil))) (DenV.b (den_cb cd_len (den_acons (den_varB 3) den_anil))))) (ds_seq (ds_val 13 (den_opV od_catT (den_opV od_catT (den_slT (den_var 4) den_ono (den_oat (den_varB 12))) (DenF.v (den_tup (den_avcons (den_op od_mod (DenV.b (den_cb cd_int (den_acons (DenV.b (den_op od_get (den_varB 1) (DenV.b (den_int 41)))) den_anil))) (DenV.b (den_int 10))) den_avnil)))) (den_slT (den_var 4) (den_oat (DenV.b (den_op od_add (den_varB 12) (DenV.b (den_int 1))))) den_ono))) (ds_seq (ds_val 14 (DenF.v (den_tup (den_avcons (den_var 3) (den_avcons (den_var 13) den_avnil))))) (ds_seq (ds_wipe [15] (ds_if (den_tTest (DenV.b (den_op od_eqD (DenV.b (den_op od_mod (DenV.b (den_cb cd_int (den_acons (DenV.b (den_op od_get (den_varB 1) (DenV.b (den_int 42)))) den_anil))) (DenV.b (den_int 2)))) (DenV.b (den_int 0))))) (ds_seq (ds_val 15 (den_call noW (dm_v (DenF.v (den_opF od_catL (DenF.b (den_lst (den_avcons (den_op od_sub (den_varB 2) (DenV.b (den_int 2))) den_avnil))) (DenF.b (den_slL (den_varB 1) (den_oat (DenV.b (den_int 43))) den_ono)))) (dm_v (den_int 8) dm_nil)))) (ds_val 14 (DenF.v (den_tup (den_avcons (den_op od_get (den_varB 15) (DenV.b (den_int 1))) (den_avcons (den_op od_get (den_varB 15) (DenV.b (den_int 2))) den_avnil)))))) ds_nil)) (ds_seq (ds_val 16 (den_call noW (dm_v (DenF.v (den_tup (den_avcons (den_var 3) (den_avcons (den_var 4) den_avnil)))) (dm_v (den_var 14) (dm_v (den_var 2) dm_nil))))) (ds_seq (ds_val 17 (DenF.v (den_make (c := 21) T.ce_Sequence noW (dm_v (den_var 2) (dm_v (den_op od_get (den_varB 14) (DenV.b (den_int 0))) (dm_v (den_op od_get (den_varB 14) (DenV.b (den_int 1))) dm_nil)))))) (ds_seq (ds_val 9 (den_call noW (dm_v (den_var 5) (dm_v (den_var 17) dm_nil)))) (ds_seq (ds_if (den_or (den_tTest (DenV.b (den_op od_neD (DenV.b (den_call noW (dm_v (den_var 5) (dm_v (den_var 17) dm_nil)))) (den_varB 16)))) (den_or (den_not (den_tB (DenV.b (den_cb cd_isi (den_acons (den_varB 9) (den_acons (DenV.b (den_ty .bl)) den_anil)))))) (den_tTest (DenV.b (den_op od_neD (den_varB 9) (DenV.b (den_op od_isN (den_varB 16) (DenV.b den_non)))))))) (ds_ret (den_bl false)) ds_nil) (ds_seq (ds_if (den_and (den_tTest (DenV.b (den_op od_notN (den_varB 16) (DenV.b den_non)))) (den_tTest (DenV.b (den_op od_ninDpT (DenF.b (den_slL (DenF.b (den_lc (vs := [19]) (DenI.c (den_iR1 (den_acons (DenV.b (den_op od_add (DenV.b (den_cb cd_min2 (den_acons (den_varB 16) (den_acons (DenV.b (den_int 200)) den_anil)))) (DenV.b (den_int 1)))) den_anil))) (dg_name 19) (den_tTest (DenV.b (den_op od_neD (DenV.b (den_meth (c := 21) T.ce_Sequence (by decide +kernel) noW (den_var 5) (dm_v (den_var 19) dm_nil))) (DenV.b (den_meth (c := 21) T.ce_Sequence (by decide +kernel) noW (den_var 17) (dm_v (den_var 19) dm_nil)))))) (den_var 19))) den_ono (den_oat (DenV.b (den_int 1))))) (DenF.b (den_tup (den_avcons (DenF.v (den_lst (den_avcons (den_var 16) den_avnil))) (den_avcons (DenF.v (den_lst den_avnil)) den_avnil)))))))) (ds_ret (den_bl false)) ds_nil) (ds_seq (ds_val 18 (DenF.v (den_make (c := 21) T.ce_Sequence noW (dm_v (den_op od_add (DenV.b (den_int 2)) (DenV.b (den_op od_mod (DenV.b (den_cb cd_int (den_acons (DenV.b (den_op od_sub (den_varB 2) (DenV.b (den_int 1)))) den_anil))) (DenV.b (den_int 3))))) (dm_v (DenF.v (den_lst (den_avcons (den_opV od_repTA (DenF.v (den_tup (den_avcons (den_int 0) den_avnil))) (den_op od_add (DenV.b (den_int 2)) (DenV.b (den_op od_mod (DenV.b (den_cb cd_int (den_acons (DenV.b (den_op od_sub (den_varB 2) (DenV.b (den_int 1)))) den_anil))) (DenV.b (den_int 3)))))) den_avnil))) (dm_v (DenF.v (den_lst (den_avcons (den_int 0) den_avnil))) dm_nil)))))) (ds_ret (den_andV (DenV.b (den_call noW (dm_v (den_str "same") (dm_v (den_var 5) (dm_v (den_var 18) dm_nil))))) (den_call noW (dm_v (den_str "differing") (dm_v (den_var 5) (dm_v (den_var 18) dm_nil)))))))))))))))))))))))))))⟩
  exact h
end
end K22

/-! PM1: states that no word parts: parted by words of growing length; representatives; it ends. Plain Lean. -/
namespace PM
section
variable {α : Type}
/-- the first of each kind -/
def reps (E : α → α → Bool) (S : List α) : List α := S.foldl (fun acc s => if (acc.any fun r => E r s) = true then acc else acc ++ [s]) []
structure Eqr (E : α → α → Bool) : Prop where
  refl : ∀ a, E a a = true
  symm : ∀ a b, E a b = true → E b a = true
  trans : ∀ a b c, E a b = true → E b c = true → E a c = true
/-- what is so of the representatives found so far -/
structure RepOk (E : α → α → Bool) (pre acc : List α) : Prop where
  sub : acc.Sublist pre
  all : ∀ s ∈ pre, ∃ r ∈ acc, E r s = true
  ne : acc.Pairwise fun a b => E a b = false
theorem repOk_step {E : α → α → Bool} (h : Eqr E) {pre acc : List α} (x : RepOk E pre acc) (s : α) : RepOk E (pre ++ [s]) (if (acc.any fun r => E r s) = true then acc else acc ++ [s]) := by
  split
  · rename_i q
    refine ⟨x.sub.trans (List.sublist_append_left _ _), fun t ht => ?_, x.ne⟩
    rcases List.mem_append.mp ht with ht | ht
    · exact x.all t ht
    · rw [List.mem_singleton.mp ht]
      obtain ⟨r, hr, e⟩ := List.any_eq_true.mp q
      exact ⟨r, hr, e⟩
  · rename_i q
    have q' : ∀ r ∈ acc, E r s = false := fun r hr => by
      cases e : E r s with
      | false => rfl
      | true => exact (q (List.any_eq_true.mpr ⟨r, hr, e⟩)).elim
    refine ⟨x.sub.append (List.Sublist.refl _), fun t ht => ?_, ?_⟩
    · rcases List.mem_append.mp ht with ht | ht
      · obtain ⟨r, hr, e⟩ := x.all t ht
        exact ⟨r, List.mem_append_left _ hr, e⟩
      · rw [List.mem_singleton.mp ht]
        exact ⟨s, List.mem_append_right _ (List.mem_singleton.mpr rfl), h.refl s⟩
    · rw [List.pairwise_append]
      refine ⟨x.ne, List.pairwise_singleton _ _, fun a ha b hb => ?_⟩
      rw [List.mem_singleton.mp hb]
      exact q' a ha
theorem repOk_fold {E : α → α → Bool} (h : Eqr E) : ∀ (S pre acc : List α), RepOk E pre acc → RepOk E (pre ++ S) (S.foldl (fun acc s => if (acc.any fun r => E r s) = true then acc else acc ++ [s]) acc)
  | [], pre, acc, x => by rw [List.append_nil]; exact x
  | s :: S, pre, acc, x => by
    have := repOk_fold h S (pre ++ [s]) _ (repOk_step h x s)
    rw [List.append_assoc] at this
    exact this
theorem reps_ok {E : α → α → Bool} (h : Eqr E) (S : List α) : RepOk E S (reps E S) := by
  have := repOk_fold h S [] [] ⟨List.Sublist.refl _, (fun s hs => by cases hs), List.Pairwise.nil⟩
  exact this
/-- finer relations have more representatives -/
theorem reps_fold_sub {E E' : α → α → Bool} (h : Eqr E) (h' : Eqr E') (f : ∀ a b, E a b = true → E' a b = true) : ∀ (S pre acc acc' : List α), RepOk E pre acc → RepOk E' pre acc' → acc'.Sublist acc →
    (S.foldl (fun acc s => if (acc.any fun r => E' r s) = true then acc else acc ++ [s]) acc').Sublist (S.foldl (fun acc s => if (acc.any fun r => E r s) = true then acc else acc ++ [s]) acc)
  | [], pre, acc, acc', x, x', s => s
  | s :: S, pre, acc, acc', x, x', sb => by
    refine reps_fold_sub h h' f S (pre ++ [s]) _ _ (repOk_step h x s) (repOk_step h' x' s) ?_
    show (if (acc'.any fun r => E' r s) = true then acc' else acc' ++ [s]).Sublist (if (acc.any fun r => E r s) = true then acc else acc ++ [s])
    by_cases q' : (acc'.any fun r => E' r s) = true
    · rw [if_pos q']
      split
      · exact sb
      · exact sb.trans (List.sublist_append_left _ _)
    · rw [if_neg q']
      have q : ¬ (acc.any fun r => E r s) = true := fun q => by
        obtain ⟨r, hr, e⟩ := List.any_eq_true.mp q
        obtain ⟨r', hr', e'⟩ := x'.all r (x.sub.subset hr)
        exact q' (List.any_eq_true.mpr ⟨r', hr', h'.trans _ _ _ e' (f _ _ e)⟩)
      rw [if_neg q]
      exact sb.append (List.Sublist.refl _)
theorem reps_sub {E E' : α → α → Bool} (h : Eqr E) (h' : Eqr E') (f : ∀ a b, E a b = true → E' a b = true) (S : List α) : (reps E' S).Sublist (reps E S) :=
  reps_fold_sub h h' f S [] [] [] ⟨List.Sublist.refl _, (fun s hs => by cases hs), List.Pairwise.nil⟩ ⟨List.Sublist.refl _, (fun s hs => by cases hs), List.Pairwise.nil⟩ (List.Sublist.refl _)
theorem rep_one {E : α → α → Bool} (h : Eqr E) {acc : List α} (p : acc.Pairwise fun a b => E a b = false) {a b : α} (ha : a ∈ acc) (hb : b ∈ acc) (e : E a b = true) : a = b := by
  induction acc with
  | nil => cases ha
  | cons x r ih =>
    obtain ⟨p1, p2⟩ := List.pairwise_cons.mp p
    rcases List.mem_cons.mp ha with ha1 | ha1 <;> rcases List.mem_cons.mp hb with hb1 | hb1
    · rw [ha1, hb1]
    · rw [ha1, p1 b hb1] at e
      cases e
    · have := h.symm _ _ e
      rw [hb1, p1 a ha1] at this
      cases this
    · exact ih p2 ha1 hb1
/-- as many representatives: the same relation -/
theorem reps_same {E E' : α → α → Bool} (h : Eqr E) (h' : Eqr E') (f : ∀ a b, E a b = true → E' a b = true) {S : List α} (hl : (reps E S).length ≤ (reps E' S).length) {s t : α} (hs : s ∈ S) (ht : t ∈ S) (e : E' s t = true) : E s t = true := by
  have eq : reps E' S = reps E S := (reps_sub h h' f S).eq_of_length_le hl
  have x := reps_ok h S
  have x' := reps_ok h' S
  rw [eq] at x'
  obtain ⟨r, hr, e1⟩ := x.all s hs
  obtain ⟨q, hq, e2⟩ := x.all t ht
  have e3 : E' r q = true := h'.trans _ _ _ (f _ _ e1) (h'.trans _ _ _ e (h'.symm _ _ (f _ _ e2)))
  have e4 : r = q := rep_one h' x'.ne hr hq e3
  subst e4
  exact h.trans _ _ _ (h.symm _ _ e1) e2

/-! ### words of growing length -/
variable {γ : Type} [BEq γ] [LawfulBEq γ] (acc : α → γ) (δ : α → Nat → α) (W : Nat)
omit [LawfulBEq γ] in
/-- no word of at most k letters parts them -/
def eqk : Nat → α → α → Bool
  | 0, s, t => acc s == acc t
  | k + 1, s, t => eqk k s t && (List.range W).all fun j => eqk k (δ s j) (δ t j)
variable {acc δ W}
theorem eqk_succ {k : Nat} {s t : α} : eqk acc δ W (k + 1) s t = true ↔ eqk acc δ W k s t = true ∧ ∀ j, j < W → eqk acc δ W k (δ s j) (δ t j) = true := by
  show (_ && _) = true ↔ _
  rw [Bool.and_eq_true, List.all_eq_true]
  exact and_congr Iff.rfl ⟨fun h j hj => h j (List.mem_range.mpr hj), fun h j hj => h j (List.mem_range.mp hj)⟩
theorem eqk_eqr : ∀ k, Eqr (eqk acc δ W k)
  | 0 => ⟨fun a => beq_self_eq_true _, fun a b h => by
      have h : (acc a == acc b) = true := h
      show (acc b == acc a) = true
      rw [beq_iff_eq] at h ⊢
      exact h.symm, fun a b c h1 h2 => by
      have h1 : (acc a == acc b) = true := h1
      have h2 : (acc b == acc c) = true := h2
      show (acc a == acc c) = true
      rw [beq_iff_eq] at h1 h2 ⊢
      exact h1.trans h2⟩
  | k + 1 => by
    have ih := eqk_eqr k
    refine ⟨fun a => eqk_succ.mpr ⟨ih.refl a, fun j _ => ih.refl _⟩, fun a b h => ?_, fun a b c h1 h2 => ?_⟩
    · obtain ⟨q1, q2⟩ := eqk_succ.mp h
      exact eqk_succ.mpr ⟨ih.symm _ _ q1, fun j hj => ih.symm _ _ (q2 j hj)⟩
    · obtain ⟨q1, q2⟩ := eqk_succ.mp h1
      obtain ⟨q3, q4⟩ := eqk_succ.mp h2
      exact eqk_succ.mpr ⟨ih.trans _ _ _ q1 q3, fun j hj => ih.trans _ _ _ (q2 j hj) (q4 j hj)⟩
theorem eqk_down {s t : α} : ∀ {k m : Nat}, m ≤ k → eqk acc δ W k s t = true → eqk acc δ W m s t = true
  | 0, m, h, e => by rw [Nat.le_zero.mp h]; exact e
  | k + 1, m, h, e => by
    by_cases q : m = k + 1
    · rw [q]; exact e
    · exact eqk_down (by omega) (eqk_succ.mp e).1
/-- the number of kinds -/
def cnt (acc : α → γ) (δ : α → Nat → α) (W : Nat) (S : List α) (k : Nat) : Nat := (reps (eqk acc δ W k) S).length
theorem cnt_mono (S : List α) (k : Nat) : cnt acc δ W S k ≤ cnt acc δ W S (k + 1) := (reps_sub (eqk_eqr (k + 1)) (eqk_eqr k) (fun _ _ h => (eqk_succ.mp h).1) S).length_le
theorem cnt_le (S : List α) (k : Nat) : cnt acc δ W S k ≤ S.length := (reps_ok (eqk_eqr k) S).sub.length_le
/-- no more kinds by one more letter: none ever -/
theorem eqk_stable {S : List α} (hc : ∀ s ∈ S, ∀ j, j < W → δ s j ∈ S) {k : Nat} (h : cnt acc δ W S (k + 1) ≤ cnt acc δ W S k) : ∀ m s t, s ∈ S → t ∈ S → eqk acc δ W k s t = true → eqk acc δ W (k + m) s t = true := by
  have one : ∀ s t, s ∈ S → t ∈ S → eqk acc δ W k s t = true → eqk acc δ W (k + 1) s t = true := fun s t hs ht e =>
    reps_same (eqk_eqr (k + 1)) (eqk_eqr k) (fun _ _ h => (eqk_succ.mp h).1) h hs ht e
  intro m
  induction m with
  | zero => exact fun s t _ _ e => e
  | succ m ih =>
    intro s t hs ht e
    rw [← Nat.add_assoc]
    refine eqk_succ.mpr ⟨ih s t hs ht e, fun j hj => ih _ _ (hc s hs j hj) (hc t ht j hj) ?_⟩
    exact (eqk_succ.mp (one s t hs ht e)).2 j hj
theorem cnt_stop (S : List α) : ∃ k, k ≤ S.length ∧ cnt acc δ W S (k + 1) ≤ cnt acc δ W S k := by
  apply Classical.byContradiction
  intro h
  have h' : ∀ k, k ≤ S.length → cnt acc δ W S k < cnt acc δ W S (k + 1) := fun k hk => by
    apply Classical.byContradiction
    intro q
    exact h ⟨k, hk, by omega⟩
  have grow : ∀ k, k ≤ S.length + 1 → k ≤ cnt acc δ W S k := by
    intro k
    induction k with
    | zero => intro _; exact Nat.zero_le _
    | succ k ih =>
      intro hk
      have := ih (by omega)
      have := h' k (by omega)
      omega
  have := grow (S.length + 1) (Nat.le_refl _)
  have := cnt_le (acc := acc) (δ := δ) (W := W) S (S.length + 1)
  omega
/-- as many letters as states are enough -/
theorem eqk_all {S : List α} (hc : ∀ s ∈ S, ∀ j, j < W → δ s j ∈ S) {s t : α} (hs : s ∈ S) (ht : t ∈ S) (e : eqk acc δ W S.length s t = true) (m : Nat) : eqk acc δ W m s t = true := by
  obtain ⟨k, hk, h⟩ := cnt_stop (acc := acc) (δ := δ) (W := W) S
  have e1 := eqk_stable hc h m s t hs ht (eqk_down hk e)
  exact eqk_down (by omega) e1
/-- alike: no word parts them -/
def Alike (acc : α → γ) (δ : α → Nat → α) (W : Nat) (s t : α) : Prop := ∀ m, eqk acc δ W m s t = true
theorem Alike.same {s t : α} (h : Alike acc δ W s t) : acc s = acc t := by
  have : (acc s == acc t) = true := h 0
  exact eq_of_beq this
theorem Alike.step {s t : α} (h : Alike acc δ W s t) {j : Nat} (hj : j < W) : Alike acc δ W (δ s j) (δ t j) := fun m => (eqk_succ.mp (h (m + 1))).2 j hj
theorem Alike.word {s t : α} (h : Alike acc δ W s t) : ∀ {ks : List Nat}, (∀ k ∈ ks, k < W) → acc (ks.foldl δ s) = acc (ks.foldl δ t)
  | [], _ => h.same
  | k :: ks, hk => (h.step (hk k List.mem_cons_self)).word fun j hj => hk j (List.mem_cons_of_mem _ hj)
end

/-! ### things numbered as they come -/
section
variable {κ : Type} [DecidableEq κ]
def addK (ks : List κ) (k : κ) : List κ := if k ∈ ks then ks else ks ++ [k]
def distinct (xs : List κ) : List κ := xs.foldl addK []
theorem addK_pre (ks : List κ) (k : κ) : ∃ r, addK ks k = ks ++ r := by
  unfold addK
  split
  · exact ⟨[], by simp⟩
  · exact ⟨[k], rfl⟩
theorem fold_pre : ∀ (xs ks : List κ), ∃ r, xs.foldl addK ks = ks ++ r
  | [], ks => ⟨[], by simp⟩
  | x :: xs, ks => by
    obtain ⟨r, h⟩ := addK_pre ks x
    obtain ⟨q, h2⟩ := fold_pre xs (addK ks x)
    exact ⟨r ++ q, by rw [List.foldl_cons, h2, h, List.append_assoc]⟩
theorem addK_mem (ks : List κ) (k : κ) : k ∈ addK ks k := by
  unfold addK
  split
  · assumption
  · simp
theorem addK_nodup {ks : List κ} (h : ks.Nodup) (k : κ) : (addK ks k).Nodup := by
  unfold addK
  split
  · exact h
  · rename_i q
    rw [List.nodup_append]
    exact ⟨h, by simp, fun a ha b hb e => by rw [List.mem_singleton.mp hb] at e; exact q (e ▸ ha)⟩
theorem fold_nodup : ∀ (xs : List κ) {ks : List κ}, ks.Nodup → (xs.foldl addK ks).Nodup
  | [], _, h => h
  | x :: xs, _, h => fold_nodup xs (addK_nodup h x)
theorem distinct_nodup (xs : List κ) : (distinct xs).Nodup := fold_nodup xs List.nodup_nil
theorem fold_mem : ∀ (xs : List κ) {ks : List κ} {k : κ}, k ∈ xs.foldl addK ks ↔ k ∈ ks ∨ k ∈ xs
  | [], ks, k => by simp
  | x :: xs, ks, k => by
    rw [List.foldl_cons, fold_mem xs, List.mem_cons]
    have : k ∈ addK ks x ↔ k ∈ ks ∨ k = x := by
      unfold addK
      split
      · rename_i q
        exact ⟨.inl, fun h => h.elim id fun e => e ▸ q⟩
      · simp
    rw [this, or_assoc]
theorem distinct_mem {xs : List κ} {k : κ} : k ∈ distinct xs ↔ k ∈ xs := by
  unfold distinct
  rw [fold_mem]
  simp
/-- representatives by values -/
theorem reps_distinct {α : Type} (g : α → κ) : ∀ (S acc : List α), S.foldl (fun ks s => addK ks (g s)) (acc.map g) = (S.foldl (fun acc s => if (acc.any fun r => decide (g r = g s)) = true then acc else acc ++ [s]) acc).map g
  | [], acc => rfl
  | s :: S, acc => by
    rw [List.foldl_cons, List.foldl_cons, ← reps_distinct g S]
    congr 1
    unfold addK
    by_cases q : g s ∈ acc.map g
    · rw [if_pos q]
      obtain ⟨r, hr, e⟩ := List.mem_map.mp q
      rw [if_pos (List.any_eq_true.mpr ⟨r, hr, by simpa using e⟩)]
    · rw [if_neg q, if_neg, List.map_append]
      · rfl
      · intro h
        obtain ⟨r, hr, e⟩ := List.any_eq_true.mp h
        exact q (List.mem_map.mpr ⟨r, hr, by simpa using e⟩)
theorem distinct_len {α : Type} (g : α → κ) (S : List α) {E : α → α → Bool} (h : ∀ s ∈ S, ∀ t ∈ S, E s t = decide (g s = g t)) : (distinct (S.map g)).length = (reps E S).length := by
  have e1 : distinct (S.map g) = (reps (fun a b => decide (g a = g b)) S).map g := by
    unfold distinct reps
    rw [List.foldl_map]
    exact reps_distinct g S []
  have e2 : ∀ (T pre acc : List α), (∀ s ∈ pre ++ T, s ∈ S) → (∀ s ∈ acc, s ∈ pre) → T.foldl (fun acc s => if (acc.any fun r => decide (g r = g s)) = true then acc else acc ++ [s]) acc = T.foldl (fun acc s => if (acc.any fun r => E r s) = true then acc else acc ++ [s]) acc := by
    intro T
    induction T with
    | nil => intro _ _ _ _; rfl
    | cons s T ih =>
      intro pre acc hp ha
      rw [List.foldl_cons, List.foldl_cons]
      have hs : s ∈ S := hp s (by simp)
      have : (acc.any fun r => decide (g r = g s)) = acc.any fun r => E r s := by
        rw [Bool.eq_iff_iff, List.any_eq_true, List.any_eq_true]
        constructor
        · rintro ⟨r, hr, e⟩
          exact ⟨r, hr, by rw [h r (hp r (by simp [ha r hr])) s hs]; exact e⟩
        · rintro ⟨r, hr, e⟩
          exact ⟨r, hr, by rw [h r (hp r (by simp [ha r hr])) s hs] at e; exact e⟩
      rw [this]
      refine ih (pre ++ [s]) _ (fun t ht => hp t (by simpa using ht)) fun t ht => ?_
      split at ht
      · exact List.mem_append_left _ (ha t ht)
      · rcases List.mem_append.mp ht with ht | ht
        · exact List.mem_append_left _ (ha t ht)
        · exact List.mem_append_right _ ht
  rw [e1, List.length_map]
  unfold reps
  rw [e2 S [] [] (by simp) (by simp)]
/-- the number of a thing -/
def num (ks : List κ) (k : κ) : Nat := ks.idxOf k
theorem num_inj {ks : List κ} {a b : κ} (ha : a ∈ ks) (hb : b ∈ ks) (e : num ks a = num ks b) : a = b := by
  unfold num at e
  have h1 := List.getElem_idxOf (List.idxOf_lt_length_of_mem ha)
  have h2 := List.getElem_idxOf (List.idxOf_lt_length_of_mem hb)
  rw [← h1, ← h2]
  simp only [e]
theorem num_lt {ks : List κ} {a : κ} (ha : a ∈ ks) : num ks a < ks.length := List.idxOf_lt_length_of_mem ha
theorem num_cons (x : κ) (ks : List κ) (k : κ) : num (x :: ks) k = if x = k then 0 else num ks k + 1 := by
  unfold num
  rw [List.idxOf_cons]
  by_cases e : x = k
  · rw [if_pos e, beq_iff_eq.mpr e]
    rfl
  · rw [if_neg e, beq_eq_false_iff_ne.mpr e]
    rfl
theorem num_pre {ks r : List κ} {k : κ} (h : k ∈ ks) : num (ks ++ r) k = num ks k := by
  unfold num
  rw [List.idxOf_append, if_pos h]
theorem num_new {ks : List κ} {k : κ} (h : ¬ k ∈ ks) : num (ks ++ [k]) k = ks.length := by
  unfold num
  rw [List.idxOf_append, if_neg h]
  simp
theorem nodup_len : ∀ {l m : List κ}, l.Nodup → (∀ x ∈ l, x ∈ m) → l.length ≤ m.length
  | [], m, _, _ => Nat.zero_le _
  | a :: l, m, h, s => by
    obtain ⟨h1, h2⟩ := List.nodup_cons.mp h
    have ha := s a List.mem_cons_self
    have := nodup_len (m := m.erase a) h2 fun x hx => (List.mem_erase_of_ne fun e => h1 (by rw [← e]; exact hx)).mpr (s x (List.mem_cons_of_mem _ hx))
    rw [List.length_erase_of_mem ha] at this
    have := List.length_pos_of_mem ha
    rw [List.length_cons]
    omega
end
end PM

/-! PM2: dicts that grow: marks. Plain Lean. -/
namespace PM
open L2 FL
section
variable {κ : Type} [DecidableEq κ]
theorem lk_cons (p : κ × D) (r : List (κ × D)) (k : κ) : lk (p :: r) k = if p.1 = k then some p.2 else lk r k := rfl
theorem lk_app (kvs : List (κ × D)) (k : κ) (v : D) (k' : κ) : lk (kvs ++ [(k, v)]) k' = match lk kvs k' with | some d => some d | none => if k = k' then some v else none := by
  induction kvs with
  | nil => rfl
  | cons p r ih =>
    rw [List.cons_append, lk_cons, lk_cons]
    by_cases e : p.1 = k'
    · rw [if_pos e, if_pos e]
    · rw [if_neg e, if_neg e, ih]
theorem lk_setA (kvs : List (κ × D)) (k : κ) (v : D) (k' : κ) : lk (kvs.map fun kv => if kv.1 = k then (kv.1, v) else kv) k' = if k = k' then (lk kvs k').map fun _ => v else lk kvs k' := by
  induction kvs with
  | nil => show none = if k = k' then none else none; split <;> rfl
  | cons p r ih =>
    rw [List.map_cons, lk_cons, lk_cons]
    by_cases e : p.1 = k
    · rw [if_pos e]
      by_cases e2 : p.1 = k'
      · have e3 : k = k' := e.symm.trans e2
        simp only [if_pos e2, if_pos e3]
        rfl
      · simp only [if_neg e2]
        exact ih
    · rw [if_neg e]
      by_cases e2 : p.1 = k'
      · have e3 : ¬ k = k' := fun q => e (e2.trans q.symm)
        simp only [if_pos e2, if_neg e3]
      · simp only [if_neg e2]
        exact ih
theorem lk_any (kvs : List (κ × D)) (k : κ) : (kvs.any fun kv => decide (kv.1 = k)) = (lk kvs k).isSome := by
  induction kvs with
  | nil => rfl
  | cons p r ih =>
    rw [List.any_cons, ih, lk_cons]
    by_cases e : p.1 = k
    · rw [if_pos e, decide_eq_true e]; rfl
    · rw [if_neg e, decide_eq_false e]; rfl
theorem lk_put (kvs : List (κ × D)) (k : κ) (v : D) (k' : κ) : lk (putD kvs k v) k' = if k = k' then some v else lk kvs k' := by
  unfold putD
  rw [lk_any]
  by_cases q : (lk kvs k).isSome = true
  · rw [if_pos q, lk_setA]
    by_cases e : k = k'
    · subst e
      rw [if_pos rfl, if_pos rfl]
      cases z : lk kvs k with
      | none => rw [z] at q; cases q
      | some d => rfl
    · rw [if_neg e, if_neg e]
  · rw [if_neg q, lk_app]
    by_cases e : k = k'
    · subst e
      rw [if_pos rfl, if_pos rfl]
      cases z : lk kvs k with
      | none => rfl
      | some d => rw [z] at q; exact (q rfl).elim
    · rw [if_neg e, if_neg e]
      cases lk kvs k' <;> rfl
theorem put_len (kvs : List (κ × D)) (k : κ) (v : D) : (putD kvs k v).length ≤ kvs.length + 1 := by
  unfold putD
  split
  · rw [List.length_map]; omega
  · simp
end
/-- a loop with a goal of any form, told by the turn -/
theorem forEgi {α β : Type} {enc : α → D} {h : GFn} {body : SFn} (st : β → Slots) (φ : β → α → β) (I : Nat → β → Prop) : ∀ (xs : List α) (k : Nat) (b : β), (∀ j b x, xs[j]? = some x → I (k + j) b → ∃ Γ1, h (enc x) (st b) = .ok Γ1 ∧ (body Γ1 = .nx (st (φ b x)) ∨ body Γ1 = .ct (st (φ b x))) ∧ I (k + j + 1) (φ b x)) → I k b →
    forD h body (xs.map enc) (st b) = .nx (st (xs.foldl φ b)) ∧ I (k + xs.length) (xs.foldl φ b)
  | [], k, b, _, hb => ⟨rfl, hb⟩
  | x :: xs, k, b, hx, hb => by
    obtain ⟨Γ1, h1, h2, h3⟩ := hx 0 b x rfl hb
    have ih := forEgi st φ I xs (k + 1) (φ b x) (fun j b y hy hI => by
      have := hx (j + 1) b y (by simpa using hy) (by rw [show k + (j + 1) = k + 1 + j by omega]; exact hI)
      rw [show k + (j + 1) = k + 1 + j by omega] at this
      exact this) h3
    rw [List.map_cons]
    unfold forD
    rw [h1, thenG_ok]
    rw [List.length_cons, show k + (xs.length + 1) = k + 1 + xs.length by omega]
    rcases h2 with h2 | h2 <;> (rw [h2]; exact ih)
end PM

/-! PM3: states in the order of their first words. Plain Lean. -/
namespace PM
section
variable {α β : Type} [DecidableEq α] [DecidableEq β]
theorem addK_in {ks : List α} {k : α} (h : k ∈ ks) : addK ks k = ks := if_pos h
theorem addK_out {ks : List α} {k : α} (h : ¬ k ∈ ks) : addK ks k = ks ++ [k] := if_neg h
theorem fold_pre2 : ∀ (xs ks : List α), ∃ r, xs.foldl addK ks = ks ++ r ∧ ∀ y ∈ r, y ∈ xs
  | [], ks => ⟨[], by simp, by simp⟩
  | x :: xs, ks => by
    obtain ⟨r, h1, h2⟩ := fold_pre2 xs (addK ks x)
    rw [List.foldl_cons, h1]
    by_cases q : x ∈ ks
    · rw [addK_in q]
      exact ⟨r, rfl, fun y hy => List.mem_cons_of_mem _ (h2 y hy)⟩
    · rw [addK_out q, List.append_assoc]
      refine ⟨[x] ++ r, rfl, fun y hy => ?_⟩
      rcases List.mem_append.mp hy with hy | hy
      · rw [List.mem_singleton.mp hy]; exact List.mem_cons_self
      · exact List.mem_cons_of_mem _ (h2 y hy)
theorem distinct_app (xs ys : List α) : distinct (xs ++ ys) = ys.foldl addK (distinct xs) := by
  unfold distinct
  rw [List.foldl_append]
theorem distinct_snoc (xs : List α) (x : α) : distinct (xs ++ [x]) = addK (distinct xs) x := distinct_app xs [x]
theorem fold_in : ∀ {xs ks : List α}, (∀ x ∈ xs, x ∈ ks) → xs.foldl addK ks = ks
  | [], ks, _ => rfl
  | x :: xs, ks, h => by
    rw [List.foldl_cons, addK_in (h x List.mem_cons_self)]
    exact fold_in fun y hy => h y (List.mem_cons_of_mem _ hy)
theorem distinct_id : ∀ {xs : List α}, xs.Nodup → distinct xs = xs := fun {xs} h => by
  have : ∀ (ys ks : List α), (ks ++ ys).Nodup → ys.foldl addK ks = ks ++ ys := by
    intro ys
    induction ys with
    | nil => intro ks _; simp
    | cons y ys ih =>
      intro ks hn
      have q : ¬ y ∈ ks := fun q => (List.nodup_append.mp hn).2.2 y q y List.mem_cons_self rfl
      rw [List.foldl_cons, addK_out q, ih _ (by simpa using hn)]
      simp
  exact this xs [] (by simpa using h)
/-- by the last one -/
theorem snoc_ind {P : List α → Prop} (h0 : P []) (h1 : ∀ xs x, P xs → P (xs ++ [x])) (xs : List α) : P xs := by
  have : ∀ ys : List α, P ys.reverse := fun ys => by
    induction ys with
    | nil => exact h0
    | cons y ys ih => rw [List.reverse_cons]; exact h1 _ _ ih
  have := this xs.reverse
  rwa [List.reverse_reverse] at this
theorem distinct_map (f : α → β) (xs : List α) : distinct ((distinct xs).map f) = distinct (xs.map f) := by
  refine snoc_ind (P := fun xs => distinct ((distinct xs).map f) = distinct (xs.map f)) rfl (fun xs x ih => ?_) xs
  rw [distinct_snoc, List.map_append, List.map_singleton, distinct_snoc, ← ih]
  by_cases q : x ∈ distinct xs
  · rw [addK_in q, addK_in]
    exact distinct_mem.mpr (List.mem_map_of_mem q)
  · rw [addK_out q, List.map_append, List.map_singleton, distinct_snoc]
theorem distinct_flat (g : α → List β) (ks : List β) (ys : List α) : ((distinct ys).flatMap g).foldl addK ks = (ys.flatMap g).foldl addK ks := by
  refine snoc_ind (P := fun ys => ((distinct ys).flatMap g).foldl addK ks = (ys.flatMap g).foldl addK ks) rfl (fun xs x ih => ?_) ys
  rw [distinct_snoc, List.flatMap_append, List.foldl_append, ← ih]
  by_cases q : x ∈ distinct xs
  · rw [addK_in q]
    refine (fold_in ?_).symm
    intro y hy
    have hy : y ∈ g x := by simpa using hy
    exact (fold_mem _).mpr (.inr (List.mem_flatMap.mpr ⟨x, q, hy⟩))
  · rw [addK_out q, List.flatMap_append, List.foldl_append]
theorem distinct_split {xs : List α} : ∀ {pre : List α} {x : α} {post : List α}, distinct xs = pre ++ x :: post → ∃ p q, xs = p ++ x :: q ∧ distinct p = pre := by
  refine snoc_ind (P := fun xs => ∀ {pre : List α} {x : α} {post : List α}, distinct xs = pre ++ x :: post → ∃ p q, xs = p ++ x :: q ∧ distinct p = pre) ?_ ?_ xs
  · intro pre x post h
    exact absurd h (by simp [distinct])
  · intro xs z ih pre x post h
    rw [distinct_snoc] at h
    by_cases q : z ∈ distinct xs
    · rw [addK_in q] at h
      obtain ⟨p, r, e1, e2⟩ := ih h
      exact ⟨p, r ++ [z], by rw [e1]; simp, e2⟩
    · rw [addK_out q] at h
      rcases List.eq_nil_or_concat post with e | ⟨post', w, e⟩
      · subst e
        have := List.append_inj' h rfl
        refine ⟨xs, [], ?_, this.1⟩
        have e2 := this.2
        simp at e2
        rw [e2]
      · rw [e, List.concat_eq_append, ← List.cons_append, ← List.append_assoc] at h
        have := List.append_inj' h rfl
        obtain ⟨p, r, e1, e2⟩ := ih this.1
        exact ⟨p, r ++ [z], by rw [e1]; simp, e2⟩
/-- the order of first words -/
structure Bfs (row : α → List α) (s0 : α) (O : List α) : Prop where
  fix : distinct (s0 :: O.flatMap row) = O
  early : ∀ pre x post, O = pre ++ x :: post → pre ≠ [] → ∃ y ∈ pre, x ∈ row y
variable {row : α → List α} {s0 : α} {O : List α}
theorem Bfs.nodup (h : Bfs row s0 O) : O.Nodup := by rw [← h.fix]; exact distinct_nodup _
theorem Bfs.closed (h : Bfs row s0 O) {s x : α} (hs : s ∈ O) (hx : x ∈ row s) : x ∈ O := by
  rw [← h.fix]
  exact distinct_mem.mpr (List.mem_cons_of_mem _ (List.mem_flatMap.mpr ⟨s, hs, hx⟩))
theorem Bfs.start (h : Bfs row s0 O) : s0 ∈ O := by
  rw [← h.fix]
  exact distinct_mem.mpr List.mem_cons_self
/-- what is found when k states are done -/
def stage (row : α → List α) (s0 : α) (O : List α) (k : Nat) : List α := distinct (s0 :: (O.take k).flatMap row)
theorem stage_zero : stage row s0 O 0 = [s0] := rfl
theorem stage_succ {k : Nat} {x : α} (hx : O[k]? = some x) : stage row s0 O (k + 1) = (row x).foldl addK (stage row s0 O k) := by
  unfold stage
  rw [List.take_add_one, hx, List.flatMap_append, ← List.cons_append, distinct_app]
  simp
theorem Bfs.stage_all (h : Bfs row s0 O) : stage row s0 O O.length = O := by
  unfold stage
  rw [List.take_length, h.fix]
theorem Bfs.stage_pre (h : Bfs row s0 O) (k : Nat) : ∃ r, O = stage row s0 O k ++ r := by
  have e := h.fix
  rw [← List.take_append_drop k O, List.flatMap_append, ← List.cons_append, distinct_app, List.take_append_drop] at e
  obtain ⟨r, hr⟩ := fold_pre ((O.drop k).flatMap row) (stage row s0 O k)
  refine ⟨r, ?_⟩
  rw [← hr]
  exact e.symm
theorem Bfs.stage_lt (h : Bfs row s0 O) {k : Nat} (hk : k < O.length) : k < (stage row s0 O k).length := by
  by_cases k0 : k = 0
  · rw [k0, stage_zero]; simp
  · have e : O = O.take k ++ O[k] :: O.drop (k + 1) := by rw [List.getElem_cons_drop, List.take_append_drop]
    obtain ⟨y, hy, hx⟩ := h.early _ _ _ e fun q => by
      have := congrArg List.length q
      rw [List.length_take, List.length_nil] at this
      omega
    have hm : O[k] ∈ stage row s0 O k := distinct_mem.mpr (List.mem_cons_of_mem _ (List.mem_flatMap.mpr ⟨y, hy, hx⟩))
    apply Classical.byContradiction
    intro q
    obtain ⟨r, hr⟩ := h.stage_pre k
    obtain ⟨i, hi, e2⟩ := List.mem_iff_getElem.mp hm
    have hn := h.nodup
    have e3 : O[i]'(by omega) = O[k] := by
      rw [← e2]
      have : O[i]? = (stage row s0 O k)[i]? := by
        conv => lhs; rw [hr]
        rw [List.getElem?_append_left hi]
      rw [List.getElem?_eq_getElem (by omega), List.getElem?_eq_getElem hi] at this
      exact Option.some.inj this
    have := (List.getElem_inj hn).mp e3
    omega
theorem Bfs.stage_get (h : Bfs row s0 O) {k i : Nat} (hi : i < (stage row s0 O k).length) : (stage row s0 O k)[i]? = O[i]? := by
  obtain ⟨r, hr⟩ := h.stage_pre k
  conv => rhs; rw [hr]
  rw [List.getElem?_append_left hi]
theorem Bfs.len_le (h : Bfs row s0 O) (k : Nat) : (stage row s0 O k).length ≤ O.length := by
  obtain ⟨r, hr⟩ := h.stage_pre k
  have := congrArg List.length hr
  rw [List.length_append] at this
  omega
/-- any two are the same -/
theorem Bfs.unique (h : Bfs row s0 O) {O' : List α} (h' : Bfs row s0 O') : O = O' := by
  have key : ∀ k, k ≤ O.length → k ≤ O'.length → stage row s0 O k = stage row s0 O' k := by
    intro k
    induction k with
    | zero => intro _ _; rfl
    | succ k ih =>
      intro h1 h2
      have e := ih (by omega) (by omega)
      have hk := h.stage_lt (k := k) (by omega)
      have a := h.stage_get hk
      have b := h'.stage_get (k := k) (i := k) (by rw [← e]; exact hk)
      rw [← e, a] at b
      obtain ⟨x, hx⟩ : ∃ x, O[k]? = some x := ⟨_, List.getElem?_eq_getElem (by omega)⟩
      rw [stage_succ hx, stage_succ (b ▸ hx), e]
  rcases Nat.lt_trichotomy O.length O'.length with q | q | q
  · have e := key O.length (Nat.le_refl _) (by omega)
    rw [h.stage_all] at e
    have := h'.stage_lt q
    rw [← e] at this
    omega
  · have e := key O.length (Nat.le_refl _) (by omega)
    rw [h.stage_all, q, h'.stage_all] at e
    exact e
  · have e := key O'.length (by omega) (Nat.le_refl _)
    rw [h'.stage_all] at e
    have := h.stage_lt q
    rw [e] at this
    omega
/-- the walk -/
def bfsRun (row : α → List α) (s0 : α) : Nat → List α
  | 0 => [s0]
  | k + 1 => match (bfsRun row s0 k)[k]? with
    | some x => (row x).foldl addK (bfsRun row s0 k)
    | none => bfsRun row s0 k
structure RunOk (row : α → List α) (s0 : α) (k : Nat) (O : List α) : Prop where
  fix : distinct (s0 :: (O.take k).flatMap row) = O
  early : ∀ pre x post, O = pre ++ x :: post → pre ≠ [] → ∃ y ∈ pre, x ∈ row y
theorem run_ok (k : Nat) : RunOk row s0 k (bfsRun row s0 k) := by
  induction k with
  | zero => exact ⟨rfl, fun pre x post e hp => by
      cases pre with
      | nil => exact (hp rfl).elim
      | cons a pre =>
        have := congrArg List.length e
        simp [bfsRun] at this⟩
  | succ k ih =>
    unfold bfsRun
    cases e : (bfsRun row s0 k)[k]? with
    | none =>
      have hl := List.getElem?_eq_none_iff.mp e
      refine ⟨?_, ih.early⟩
      have f := ih.fix
      rw [List.take_of_length_le hl] at f
      simp only []
      rw [List.take_of_length_le (by omega), f]
    | some x =>
      simp only []
      have hk : k < (bfsRun row s0 k).length := (List.getElem?_eq_some_iff.mp e).1
      obtain ⟨r, hr, hr2⟩ := fold_pre2 (row x) (bfsRun row s0 k)
      refine ⟨?_, fun pre y post q hp => ?_⟩
      · have e1 : ((row x).foldl addK (bfsRun row s0 k)).take (k + 1) = (bfsRun row s0 k).take k ++ [x] := by
          rw [hr, List.take_append_of_le_length (by omega), List.take_add_one, e]
          rfl
        rw [e1, List.flatMap_append, ← List.cons_append, distinct_app, ih.fix]
        simp
      · rw [hr] at q
        by_cases hl : pre.length < (bfsRun row s0 k).length
        · have e3 : bfsRun row s0 k = pre ++ y :: ((bfsRun row s0 k).drop (pre.length + 1)) := by
            have t1 := congrArg (List.take (pre.length + 1)) q
            rw [List.take_append_of_le_length (by omega)] at t1
            have t2 : (pre ++ y :: post).take (pre.length + 1) = pre ++ [y] := by
              rw [List.take_append, List.take_of_length_le (by omega)]
              simp
            rw [t2] at t1
            conv => lhs; rw [← List.take_append_drop (pre.length + 1) (bfsRun row s0 k), t1]
            simp
          exact ih.early _ _ _ e3 hp
        · have e3 : ∃ p2, pre = bfsRun row s0 k ++ p2 := by
            have := (List.append_eq_append_iff.mp q)
            rcases this with ⟨a, h1, h2⟩ | ⟨c, h1, h2⟩
            · exact ⟨a, h1⟩
            · refine ⟨[], ?_⟩
              have := congrArg List.length h1
              rw [List.length_append] at this
              have c0 : c = [] := List.eq_nil_of_length_eq_zero (by omega)
              rw [c0] at h1
              rw [h1]
              simp
          obtain ⟨p2, e3⟩ := e3
          rw [e3, List.append_assoc] at q
          have q2 := List.append_cancel_left q
          refine ⟨x, ?_, hr2 y ?_⟩
          · rw [e3]
            exact List.mem_append_left _ (List.mem_of_getElem? e)
          · rw [q2]; simp
theorem run_sub {S : List α} (h0 : s0 ∈ S) (hc : ∀ s ∈ S, ∀ x ∈ row s, x ∈ S) (k : Nat) : ∀ x ∈ bfsRun row s0 k, x ∈ S := by
  induction k with
  | zero => intro x hx; rw [List.mem_singleton.mp hx]; exact h0
  | succ k ih =>
    intro x hx
    unfold bfsRun at hx
    cases e : (bfsRun row s0 k)[k]? with
    | none => rw [e] at hx; exact ih x hx
    | some y =>
      rw [e] at hx
      rcases (fold_mem _).mp hx with hx | hx
      · exact ih x hx
      · exact hc y (ih y (List.mem_of_getElem? e)) x hx
theorem bfs_ex {S : List α} (h0 : s0 ∈ S) (hc : ∀ s ∈ S, ∀ x ∈ row s, x ∈ S) : ∃ O, Bfs row s0 O ∧ (∀ x ∈ O, x ∈ S) ∧ O.length ≤ S.length := by
  have r := run_ok (row := row) (s0 := s0) S.length
  have sub := run_sub h0 hc S.length
  have nd : (bfsRun row s0 S.length).Nodup := by rw [← r.fix]; exact distinct_nodup _
  have hl := nodup_len nd sub
  refine ⟨_, ⟨?_, r.early⟩, sub, hl⟩
  have f := r.fix
  rwa [List.take_of_length_le hl] at f
/-- the order of the kinds -/
theorem Bfs.map (h : Bfs row s0 O) {f : α → β} {row' : β → List β} (hr : ∀ s ∈ O, row' (f s) = (row s).map f) : Bfs row' (f s0) (distinct (O.map f)) where
  fix := by
    have e1 : distinct (f s0 :: (distinct (O.map f)).flatMap row') = distinct (f s0 :: (O.map f).flatMap row') := by
      show ((distinct (O.map f)).flatMap row').foldl addK (addK [] (f s0)) = ((O.map f).flatMap row').foldl addK (addK [] (f s0))
      exact distinct_flat row' _ _
    rw [e1]
    conv => rhs; rw [← h.fix, distinct_map, List.map_cons]
    congr 2
    rw [List.flatMap_map, List.map_flatMap]
    have : ∀ l : List α, (∀ s ∈ l, s ∈ O) → l.flatMap (fun s => row' (f s)) = l.flatMap fun s => (row s).map f := fun l => by
      induction l with
      | nil => intro _; rfl
      | cons a l ih =>
        intro hl
        rw [List.flatMap_cons, List.flatMap_cons, hr a (hl a List.mem_cons_self), ih fun s hs => hl s (List.mem_cons_of_mem _ hs)]
    exact this O fun s hs => hs
  early := fun pre x post e hp => by
    obtain ⟨p, q, e1, e2⟩ := distinct_split e
    obtain ⟨pO, r, e3, e4, e5⟩ := List.map_eq_append_iff.mp e1
    obtain ⟨xO, qO, e6, e7, e8⟩ := List.map_eq_cons_iff.mp e5
    subst e6
    obtain ⟨y, hy, hx⟩ := h.early _ _ _ e3 fun z => by
      rw [z] at e4
      rw [← e4] at e2
      exact hp e2.symm
    refine ⟨f y, ?_, ?_⟩
    · rw [← e2, ← e4]
      exact distinct_mem.mpr (List.mem_map_of_mem hy)
    · rw [hr y (by rw [e3]; exact List.mem_append_left _ hy), ← e7]
      exact List.mem_map_of_mem hx
/-- numbers of kinds depend on the kinds alone -/
theorem num_kinds {κ μ : Type} [DecidableEq κ] [DecidableEq μ] (σ : α → κ) (τ : α → μ) : ∀ (xs : List α), (∀ a ∈ xs, ∀ b ∈ xs, (σ a = σ b ↔ τ a = τ b)) → ∃ L : List α, (∀ a ∈ L, a ∈ xs) ∧ distinct (xs.map σ) = L.map σ ∧ distinct (xs.map τ) = L.map τ := fun xs => by
  refine snoc_ind (P := fun xs => (∀ a ∈ xs, ∀ b ∈ xs, (σ a = σ b ↔ τ a = τ b)) → ∃ L : List α, (∀ a ∈ L, a ∈ xs) ∧ distinct (xs.map σ) = L.map σ ∧ distinct (xs.map τ) = L.map τ) ?_ ?_ xs
  · intro _; exact ⟨[], by simp, rfl, rfl⟩
  · intro xs x ih hk
    obtain ⟨L, h1, h2, h3⟩ := ih fun a ha b hb => hk a (List.mem_append_left _ ha) b (List.mem_append_left _ hb)
    have hx : x ∈ xs ++ [x] := List.mem_append_right _ List.mem_cons_self
    have hL : ∀ a ∈ L, a ∈ xs ++ [x] := fun a ha => List.mem_append_left _ (h1 a ha)
    rw [List.map_append, List.map_append, List.map_singleton, List.map_singleton, distinct_snoc, distinct_snoc, h2, h3]
    by_cases q : σ x ∈ L.map σ
    · obtain ⟨a, ha, e⟩ := List.mem_map.mp q
      have q2 : τ x ∈ L.map τ := by
        rw [← (hk a (hL a ha) x hx).mp e]
        exact List.mem_map_of_mem ha
      rw [addK_in q, addK_in q2]
      exact ⟨L, hL, rfl, rfl⟩
    · have q2 : ¬ τ x ∈ L.map τ := fun q2 => by
        obtain ⟨a, ha, e⟩ := List.mem_map.mp q2
        apply q
        rw [← (hk a (hL a ha) x hx).mpr e]
        exact List.mem_map_of_mem ha
      rw [addK_out q, addK_out q2]
      refine ⟨L ++ [x], fun a ha => ?_, by simp, by simp⟩
      rcases List.mem_append.mp ha with ha | ha
      · exact hL a ha
      · rw [List.mem_singleton.mp ha]; exact hx
end
end PM

/-! PM10: the walk along words in order, with the words; the first word of a kind. Plain Lean. -/
namespace PM
section
variable {α : Type} [DecidableEq α]
/-- one more thing with its word, unless it is there -/
def addW (L : List (α × List Nat)) (e : α × List Nat) : List (α × List Nat) := if e.1 ∈ L.map Prod.fst then L else L ++ [e]
def rowW (δ : α → Nat → α) (e : α × List Nat) (n : Nat) : List (α × List Nat) := (List.range n).map fun j => (δ e.1 j, e.2 ++ [j])
def runW (δ : α → Nat → α) (W : Nat) (s0 : α) : Nat → List (α × List Nat)
  | 0 => [(s0, [])]
  | k + 1 => match (runW δ W s0 k)[k]? with
    | some e => (rowW δ e W).foldl addW (runW δ W s0 k)
    | none => runW δ W s0 k
/-- the place of a word among all words, shorter ones first -/
def codeW (W : Nat) (w : List Nat) : Nat := w.foldl (fun c j => c * W + j + 1) 0
theorem codeW_snoc (W : Nat) (w : List Nat) (j : Nat) : codeW W (w ++ [j]) = codeW W w * W + j + 1 := by simp [codeW]
theorem code_lt {W : Nat} {v u : List Nat} {i j : Nat} (h : codeW W v < codeW W u) (hi : i < W) : codeW W (v ++ [i]) < codeW W (u ++ [j]) := by
  rw [codeW_snoc, codeW_snoc]
  have := Nat.mul_le_mul_right W (show codeW W v + 1 ≤ codeW W u from h)
  rw [Nat.add_mul] at this
  omega
theorem code_le {W : Nat} {v u : List Nat} {j : Nat} (h : codeW W v ≤ codeW W u) : codeW W (v ++ [j]) ≤ codeW W (u ++ [j]) := by
  rw [codeW_snoc, codeW_snoc]
  have := Nat.mul_le_mul_right W h
  omega
theorem code_inj {W : Nat} (v : List Nat) : ∀ u : List Nat, (∀ k ∈ v, k < W) → (∀ k ∈ u, k < W) → codeW W v = codeW W u → v = u := by
  refine snoc_ind (P := fun v => ∀ u : List Nat, (∀ k ∈ v, k < W) → (∀ k ∈ u, k < W) → codeW W v = codeW W u → v = u) (fun u _ _ h => ?_) (fun v i ih u hv hu h => ?_) v
  · refine snoc_ind (P := fun u => codeW W [] = codeW W u → [] = u) (fun _ => rfl) (fun u j _ h => ?_) u h
    rw [codeW_snoc] at h
    simp [codeW] at h
  · revert hu h
    refine snoc_ind (P := fun u => (∀ k ∈ u, k < W) → codeW W (v ++ [i]) = codeW W u → v ++ [i] = u) (fun _ h => ?_) (fun u j _ hu h => ?_) u
    · rw [codeW_snoc] at h
      simp [codeW] at h
    · have hi : i < W := hv i (by simp)
      have hj : j < W := hu j (by simp)
      have e : codeW W v = codeW W u := by
        rcases Nat.lt_trichotomy (codeW W v) (codeW W u) with q | q | q
        · have := code_lt (i := i) (j := j) q hi; omega
        · exact q
        · have := code_lt (i := j) (j := i) q hj; omega
      have e2 := ih u (fun k hk => hv k (by simp [hk])) (fun k hk => hu k (by simp [hk])) e
      rw [codeW_snoc, codeW_snoc, e] at h
      rw [e2, show i = j by omega]
structure WOk (δ : α → Nat → α) (W : Nat) (s0 : α) (k j : Nat) (L : List (α × List Nat)) : Prop where
  head : ∃ r, L = (s0, []) :: r
  word : ∀ e ∈ L, e.2.foldl δ s0 = e.1 ∧ ∀ i ∈ e.2, i < W
  nd : (L.map Prod.fst).Nodup
  par : ∀ e ∈ L, e.2 = [] ∨ ∃ i p c, (i < k ∨ i = k ∧ c < j) ∧ L[i]? = some p ∧ c < W ∧ e.2 = p.2 ++ [c]
  ord : L.Pairwise fun a b => codeW W a.2 < codeW W b.2
  done : ∀ i p c, (i < k ∨ i = k ∧ c < j) → c < W → L[i]? = some p → ∃ u, (δ p.1 c, u) ∈ L ∧ codeW W u ≤ codeW W (p.2 ++ [c])
variable {δ : α → Nat → α} {W : Nat} {s0 : α} {k j : Nat} {L : List (α × List Nat)}
theorem WOk.less (h : WOk δ W s0 k j L) {e : α × List Nat} (he : L[k]? = some e) {a : α × List Nat} (ha : a ∈ L) : codeW W a.2 < codeW W (e.2 ++ [j]) := by
  rcases h.par a ha with q | ⟨i, p, c, hi, hp, hc, q⟩
  · rw [q, codeW_snoc]
    simp [codeW]
  · rw [q]
    rcases hi with hi | ⟨hi, hc2⟩
    · obtain ⟨hi1, hi2⟩ := List.getElem?_eq_some_iff.mp hp
      obtain ⟨hk1, hk2⟩ := List.getElem?_eq_some_iff.mp he
      have := List.pairwise_iff_getElem.mp h.ord i k hi1 hk1 hi
      rw [hi2, hk2] at this
      exact code_lt this hc
    · rw [hi, he] at hp
      cases hp
      rw [codeW_snoc, codeW_snoc]
      omega
theorem WOk.step (h : WOk δ W s0 k j L) {e : α × List Nat} (he : L[k]? = some e) (hj : j < W) : WOk δ W s0 k (j + 1) (addW L (δ e.1 j, e.2 ++ [j])) := by
  unfold addW
  have hk := (List.getElem?_eq_some_iff.mp he).1
  have hw := h.word e (List.mem_of_getElem? he)
  by_cases q : (δ e.1 j, e.2 ++ [j]).1 ∈ L.map Prod.fst
  · rw [if_pos q]
    refine ⟨h.head, h.word, h.nd, fun a ha => ?_, h.ord, fun i p c hi hc hp => ?_⟩
    · rcases h.par a ha with z | ⟨i, p, c, hi, hp, hc, z⟩
      · exact .inl z
      · exact .inr ⟨i, p, c, by omega, hp, hc, z⟩
    · by_cases z : i = k ∧ c = j
      · obtain ⟨rfl, rfl⟩ := z
        rw [he] at hp
        cases hp
        obtain ⟨a, ha, ea⟩ := List.mem_map.mp q
        refine ⟨a.2, ?_, Nat.le_of_lt (h.less he ha)⟩
        have ea' : a.1 = δ e.1 c := ea
        rw [← ea']
        exact ha
      · exact h.done i p c (by omega) hc hp
  · rw [if_neg q]
    have up : ∀ i (p : α × List Nat), L[i]? = some p → (L ++ [(δ e.1 j, e.2 ++ [j])])[i]? = some p := fun i p hp => by
      rw [List.getElem?_append_left (List.getElem?_eq_some_iff.mp hp).1]
      exact hp
    refine ⟨?_, fun a ha => ?_, ?_, fun a ha => ?_, ?_, fun i p c hi hc hp => ?_⟩
    · obtain ⟨r, hr⟩ := h.head
      exact ⟨r ++ [(δ e.1 j, e.2 ++ [j])], by rw [hr]; rfl⟩
    · rcases List.mem_append.mp ha with ha | ha
      · exact h.word a ha
      · rw [List.mem_singleton.mp ha]
        refine ⟨?_, fun i hi => ?_⟩
        · show (e.2 ++ [j]).foldl δ s0 = δ e.1 j
          rw [List.foldl_append, hw.1]
          rfl
        · rcases List.mem_append.mp hi with hi | hi
          · exact hw.2 i hi
          · rw [List.mem_singleton.mp hi]; exact hj
    · rw [List.map_append]
      refine List.nodup_append.mpr ⟨h.nd, by simp, fun a ha b hb => ?_⟩
      intro ab
      rw [← (show b = δ e.1 j by simpa using hb), ← ab] at q
      exact q ha
    · rcases List.mem_append.mp ha with ha | ha
      · rcases h.par a ha with z | ⟨i, p, c, hi, hp, hc, z⟩
        · exact .inl z
        · exact .inr ⟨i, p, c, by omega, up i p hp, hc, z⟩
      · rw [List.mem_singleton.mp ha]
        exact .inr ⟨k, e, j, by omega, up k e he, hj, rfl⟩
    · refine List.pairwise_append.mpr ⟨h.ord, by simp, fun a ha b hb => ?_⟩
      rw [List.mem_singleton.mp hb]
      exact h.less he ha
    · have hil : i < L.length := by omega
      rw [List.getElem?_append_left hil] at hp
      by_cases z : i = k ∧ c = j
      · obtain ⟨rfl, rfl⟩ := z
        rw [he] at hp
        cases hp
        exact ⟨e.2 ++ [c], by simp, Nat.le_refl _⟩
      · obtain ⟨u, hu, hu2⟩ := h.done i p c (by omega) hc hp
        exact ⟨u, List.mem_append_left _ hu, hu2⟩
theorem addW_pre (L : List (α × List Nat)) (e : α × List Nat) : ∃ r, addW L e = L ++ r := by
  unfold addW
  split
  · exact ⟨[], by simp⟩
  · exact ⟨[e], rfl⟩
theorem rowW_succ (e : α × List Nat) (n : Nat) : (rowW δ e (n + 1)).foldl addW L = addW ((rowW δ e n).foldl addW L) (δ e.1 n, e.2 ++ [n]) := by
  unfold rowW
  rw [List.range_succ, List.map_append, List.foldl_append]
  rfl
theorem rowW_pre (e : α × List Nat) (n : Nat) : ∃ r, (rowW δ e n).foldl addW L = L ++ r := by
  induction n with
  | zero => exact ⟨[], by simp [rowW]⟩
  | succ n ih =>
    obtain ⟨r, hr⟩ := ih
    rw [rowW_succ, hr]
    obtain ⟨r2, h2⟩ := addW_pre (L ++ r) (δ e.1 n, e.2 ++ [n])
    exact ⟨r ++ r2, by rw [h2, List.append_assoc]⟩
theorem WOk.row (h : WOk δ W s0 k 0 L) {e : α × List Nat} (he : L[k]? = some e) : ∀ n, n ≤ W → WOk δ W s0 k n ((rowW δ e n).foldl addW L)
  | 0, _ => h
  | n + 1, hn => by
    rw [rowW_succ]
    refine (h.row he n (by omega)).step ?_ (by omega)
    obtain ⟨r, hr⟩ := rowW_pre (δ := δ) (L := L) e n
    rw [hr, List.getElem?_append_left (List.getElem?_eq_some_iff.mp he).1]
    exact he
theorem WOk.next (h : WOk δ W s0 k W L) : WOk δ W s0 (k + 1) 0 L :=
  ⟨h.head, h.word, h.nd, fun a ha => (h.par a ha).imp id fun ⟨i, p, c, hi, r⟩ => ⟨i, p, c, by omega, r⟩, h.ord, fun i p c hi hc hp => h.done i p c (by omega) hc hp⟩
theorem WOk.stop (h : WOk δ W s0 k 0 L) (he : L[k]? = none) : WOk δ W s0 (k + 1) 0 L :=
  ⟨h.head, h.word, h.nd, fun a ha => (h.par a ha).imp id fun ⟨i, p, c, hi, r⟩ => ⟨i, p, c, by omega, r⟩, h.ord, fun i p c hi hc hp => by
    by_cases z : i = k
    · rw [z, he] at hp; cases hp
    · exact h.done i p c (by omega) hc hp⟩
theorem runW_ok (δ : α → Nat → α) (W : Nat) (s0 : α) : ∀ k, WOk δ W s0 k 0 (runW δ W s0 k)
  | 0 => by
    refine ⟨⟨[], rfl⟩, ?_, ?_, ?_, ?_, ?_⟩
    · intro e he
      rw [List.mem_singleton.mp he]
      exact ⟨rfl, by simp⟩
    · simp [runW]
    · intro e he
      rw [List.mem_singleton.mp he]
      exact .inl rfl
    · simp [runW]
    · intro i p c hi
      omega
  | k + 1 => by
    have h := runW_ok δ W s0 k
    unfold runW
    cases e : (runW δ W s0 k)[k]? with
    | none => exact h.stop e
    | some a => exact (h.row e W (Nat.le_refl _)).next
theorem runW_succ {e : α × List Nat} (he : (runW δ W s0 k)[k]? = some e) : runW δ W s0 (k + 1) = (rowW δ e W).foldl addW (runW δ W s0 k) := by
  rw [runW, he]
theorem runW_none (he : (runW δ W s0 k).length ≤ k) : runW δ W s0 (k + 1) = runW δ W s0 k := by
  rw [runW, List.getElem?_eq_none_iff.mpr he]
theorem runW_pre1 (k : Nat) : ∃ r, runW δ W s0 (k + 1) = runW δ W s0 k ++ r := by
  cases e : (runW δ W s0 k)[k]? with
  | none => exact ⟨[], by rw [runW_none (List.getElem?_eq_none_iff.mp e)]; simp⟩
  | some a => rw [runW_succ e]; exact rowW_pre _ _
theorem runW_pre (k n : Nat) : ∃ r, runW δ W s0 (k + n) = runW δ W s0 k ++ r := by
  induction n with
  | zero => exact ⟨[], by simp⟩
  | succ n ih =>
    obtain ⟨r, hr⟩ := ih
    obtain ⟨r2, h2⟩ := runW_pre1 (δ := δ) (W := W) (s0 := s0) (k + n)
    exact ⟨r ++ r2, by rw [← Nat.add_assoc, h2, hr, List.append_assoc]⟩
theorem runW_fin (h : (runW δ W s0 k).length ≤ k) (n : Nat) : runW δ W s0 (k + n) = runW δ W s0 k := by
  induction n with
  | zero => rfl
  | succ n ih => rw [← Nat.add_assoc, runW_none (by rw [ih]; omega), ih]
theorem runW_sub {S : List α} (h0 : s0 ∈ S) (hc : ∀ s ∈ S, ∀ j, j < W → δ s j ∈ S) (k : Nat) : ∀ e ∈ runW δ W s0 k, e.1 ∈ S := fun e he => by
  obtain ⟨h1, h2⟩ := (runW_ok δ W s0 k).word e he
  rw [← h1]
  have : ∀ (w : List Nat) (s : α), s ∈ S → (∀ j ∈ w, j < W) → w.foldl δ s ∈ S := by
    intro w
    induction w with
    | nil => intro s hs _; exact hs
    | cons j w ih => intro s hs hw; exact ih _ (hc s hs j (hw j List.mem_cons_self)) (fun i hi => hw i (List.mem_cons_of_mem _ hi))
  exact this _ _ h0 h2
theorem runW_len {S : List α} (h0 : s0 ∈ S) (hc : ∀ s ∈ S, ∀ j, j < W → δ s j ∈ S) (k : Nat) : (runW δ W s0 k).length ≤ S.length := by
  have := nodup_len (runW_ok δ W s0 k).nd (fun x hx => by
    obtain ⟨e, he, rfl⟩ := List.mem_map.mp hx
    exact runW_sub h0 hc k e he)
  rwa [List.length_map] at this
/-- each word leads to a thing that stands there with a word no later -/
theorem all_words {K : Nat} (hK : (runW δ W s0 K).length ≤ K) (ks : List Nat) : (∀ j ∈ ks, j < W) → ∃ u, (ks.foldl δ s0, u) ∈ runW δ W s0 K ∧ codeW W u ≤ codeW W ks := by
  have ok := runW_ok δ W s0 K
  refine snoc_ind (P := fun ks => (∀ j ∈ ks, j < W) → ∃ u, (ks.foldl δ s0, u) ∈ runW δ W s0 K ∧ codeW W u ≤ codeW W ks) (fun _ => ?_) (fun ks j ih h => ?_) ks
  · obtain ⟨r, hr⟩ := ok.head
    exact ⟨[], by rw [hr]; exact List.mem_cons_self, Nat.le_refl _⟩
  · obtain ⟨u, hu, hc⟩ := ih fun i hi => h i (by simp [hi])
    obtain ⟨i, hi⟩ := List.getElem?_of_mem hu
    have hil := (List.getElem?_eq_some_iff.mp hi).1
    obtain ⟨v, hv, hv2⟩ := ok.done i _ j (by omega) (h j (by simp)) hi
    refine ⟨v, ?_, Nat.le_trans hv2 (code_le hc)⟩
    rw [List.foldl_append]
    exact hv
/-- the first word of a kind -/
def IsFirst (W : Nat) (P : List Nat → Bool) (w : List Nat) : Prop := (∀ j ∈ w, j < W) ∧ P w = true ∧ ∀ u : List Nat, (∀ j ∈ u, j < W) → P u = true → codeW W w ≤ codeW W u
theorem IsFirst.unique {P : List Nat → Bool} {w u : List Nat} (h : IsFirst W P w) (h2 : IsFirst W P u) : w = u :=
  code_inj w u h.1 h2.1 (Nat.le_antisymm (h.2.2 u h2.1 h2.2.1) (h2.2.2 w h.1 h.2.1))
theorem IsFirst.congr {P P' : List Nat → Bool} {w : List Nat} (hp : ∀ u : List Nat, (∀ j ∈ u, j < W) → P u = P' u) (h : IsFirst W P w) : IsFirst W P' w :=
  ⟨h.1, by rw [← hp w h.1]; exact h.2.1, fun u hu q => h.2.2 u hu (by rw [hp u hu]; exact q)⟩
theorem found_first {p : α → Bool} {K : Nat} (hK : (runW δ W s0 K).length ≤ K) {e : α × List Nat} (he : (runW δ W s0 k)[k]? = some e) (hp : p e.1 = true)
    (hno : ∀ i, i < k → ∀ a, (runW δ W s0 k)[i]? = some a → p a.1 = false) : IsFirst W (fun w => p (w.foldl δ s0)) e.2 := by
  have ok := runW_ok δ W s0 k
  obtain ⟨w1, w2⟩ := ok.word e (List.mem_of_getElem? he)
  refine ⟨w2, by show p (e.2.foldl δ s0) = true; rw [w1]; exact hp, fun u hu q => ?_⟩
  replace q : p (u.foldl δ s0) = true := q
  have hf := runW_fin hK k
  rw [Nat.add_comm] at hf
  have hM : (runW δ W s0 (k + K)).length ≤ k + K := by rw [hf]; omega
  obtain ⟨r, hr⟩ := runW_pre (δ := δ) (W := W) (s0 := s0) k K
  obtain ⟨v, hv, hvc⟩ := all_words hM u hu
  refine Nat.le_trans ?_ hvc
  obtain ⟨i, hi⟩ := List.getElem?_of_mem hv
  obtain ⟨hi1, hi2⟩ := List.getElem?_eq_some_iff.mp hi
  have hkl := (List.getElem?_eq_some_iff.mp he).1
  have he' : (runW δ W s0 (k + K))[k]? = some e := by
    rw [hr, List.getElem?_append_left hkl]
    exact he
  obtain ⟨hk1, hk2⟩ := List.getElem?_eq_some_iff.mp he'
  rcases Nat.lt_trichotomy i k with z | z | z
  · have this : p (u.foldl δ s0) = false := hno i z (u.foldl δ s0, v) (by
      rw [hr, List.getElem?_append_left (by omega)] at hi
      exact hi)
    rw [this] at q
    cases q
  · rw [z, he'] at hi
    cases hi
    exact Nat.le_refl _
  · have := List.pairwise_iff_getElem.mp (runW_ok δ W s0 (k + K)).ord k i hk1 hi1 z
    rw [hk2, hi2] at this
    exact Nat.le_of_lt this
theorem none_first {p : α → Bool} (hk : (runW δ W s0 k).length ≤ k) (hno : ∀ e ∈ runW δ W s0 k, p e.1 = false) (u : List Nat) (hu : ∀ j ∈ u, j < W) : p (u.foldl δ s0) = false := by
  obtain ⟨v, hv, _⟩ := all_words hk u hu
  exact hno _ hv
end
end PM

/-! PM11: loops that may hand back a value on the way. Plain Lean. -/
namespace PM
open L2 FL
section
variable {α β : Type} {enc : α → D} {h : GFn} {body : SFn}
theorem forR (st : β → Slots) (I : Nat → β → Prop) (R : D → Prop) : ∀ (xs : List α) (k : Nat) (b : β),
    (∀ j b x, xs[j]? = some x → I (k + j) b → ∃ Γ1, h (enc x) (st b) = .ok Γ1 ∧ ((∃ b', (body Γ1 = .nx (st b') ∨ body Γ1 = .ct (st b')) ∧ I (k + j + 1) b') ∨ ∃ d, body Γ1 = .rt d ∧ R d)) → I k b →
    (∃ b', forD h body (xs.map enc) (st b) = .nx (st b') ∧ I (k + xs.length) b') ∨ ∃ d, forD h body (xs.map enc) (st b) = .rt d ∧ R d
  | [], k, b, _, hb => .inl ⟨b, rfl, hb⟩
  | x :: xs, k, b, hx, hb => by
    obtain ⟨Γ1, h1, h2⟩ := hx 0 b x rfl hb
    rw [List.map_cons]
    unfold forD
    rw [h1, thenG_ok]
    rcases h2 with ⟨b', h2, h3⟩ | ⟨d, h2, h3⟩
    · have ih := forR st I R xs (k + 1) b' (fun j b y hy hI => by
        have := hx (j + 1) b y (by simpa using hy) (by rw [show k + (j + 1) = k + 1 + j by omega]; exact hI)
        rw [show k + (j + 1) = k + 1 + j by omega] at this
        exact this) h3
      rw [List.length_cons, show k + (xs.length + 1) = k + 1 + xs.length by omega]
      rcases h2 with h2 | h2 <;> (rw [h2]; exact ih)
    · rw [h2]
      exact .inr ⟨d, rfl, h3⟩
theorem whileR {c : Slots → Res Bool} (st : β → Slots) (I P : β → Prop) (R : D → Prop) (μ : β → Nat)
    (step : ∀ b, I b → (c (st b) = .ok false ∧ P b) ∨ (c (st b) = .ok true ∧ ((∃ b', (body (st b) = .nx (st b') ∨ body (st b) = .ct (st b')) ∧ I b' ∧ μ b' < μ b) ∨ ∃ d, body (st b) = .rt d ∧ R d))) :
    ∀ n b, I b → μ b < n → (∃ b', whileD c body n (st b) = .nx (st b') ∧ I b' ∧ P b') ∨ ∃ d, whileD c body n (st b) = .rt d ∧ R d := by
  intro n
  induction n with
  | zero => intro b _ h; omega
  | succ n ih =>
    intro b hb hm
    unfold whileD
    rcases step b hb with ⟨h1, h2⟩ | ⟨h1, ⟨b', h2, h3, h4⟩ | ⟨d, h2, h3⟩⟩
    · rw [h1, thenR_ok, if_neg Bool.false_ne_true]
      exact .inl ⟨b, rfl, hb, h2⟩
    · rw [h1, thenR_ok, if_pos rfl]
      have := ih b' h3 (by omega)
      rcases h2 with h2 | h2 <;> (rw [h2]; exact this)
    · rw [h1, thenR_ok, if_pos rfl, h2]
      exact .inr ⟨d, rfl, h3⟩
end
end PM

/-! PM4: what the least automaton is. Plain Lean. -/
namespace PM
section
variable {α : Type} [DecidableEq α]
def rowOf (δ : α → Nat → α) (W : Nat) (s : α) : List α := (List.range W).map (δ s)
theorem mem_rowOf {δ : α → Nat → α} {W : Nat} {s x : α} : x ∈ rowOf δ W s ↔ ∃ j, j < W ∧ δ s j = x := by
  unfold rowOf
  rw [List.mem_map]
  exact ⟨fun ⟨j, h1, h2⟩ => ⟨j, List.mem_range.mp h1, h2⟩, fun ⟨j, h1, h2⟩ => ⟨j, List.mem_range.mpr h1, h2⟩⟩
/-- a map onto the least automaton, whose states are 0 to m - 1 -/
structure Fold {γ : Type} [BEq γ] (acc : α → γ) (δ : α → Nat → α) (W : Nat) (s0 : α) (O : List α) (f : α → Nat) (m : Nat) (δ' : Nat → Nat → Nat) (acc' : Nat → γ) : Prop where
  ord : Bfs (rowOf δ W) s0 O
  start : f s0 = 0
  step : ∀ s ∈ O, ∀ j, j < W → f (δ s j) = δ' (f s) j
  acc : ∀ s ∈ O, acc s = acc' (f s)
  red : ∀ i k, i < m → k < m → Alike acc' δ' W i k → i = k
  bfs : Bfs (rowOf δ' W) 0 (List.range m)
variable {γ : Type} [BEq γ] [LawfulBEq γ] {acc : α → γ} {δ : α → Nat → α} {W : Nat} {s0 : α} {O : List α} {f : α → Nat} {m : Nat} {δ' : Nat → Nat → Nat} {acc' : Nat → γ}
theorem Bfs.clS (h : Bfs (rowOf δ W) s0 O) {s : α} (hs : s ∈ O) {j : Nat} (hj : j < W) : δ s j ∈ O := h.closed hs (mem_rowOf.mpr ⟨j, hj, rfl⟩)
theorem eqk_move (hc : ∀ s ∈ O, ∀ j, j < W → δ s j ∈ O) (hs : ∀ s ∈ O, ∀ j, j < W → f (δ s j) = δ' (f s) j) (ha : ∀ s ∈ O, acc s = acc' (f s)) : ∀ (k : Nat) (s u : α), s ∈ O → u ∈ O → eqk acc δ W k s u = eqk acc' δ' W k (f s) (f u)
  | 0, s, u, h1, h2 => by
    show (acc s == acc u) = (acc' (f s) == acc' (f u))
    rw [ha s h1, ha u h2]
  | k + 1, s, u, h1, h2 => by
    show (_ && _) = (_ && _)
    rw [eqk_move hc hs ha k s u h1 h2]
    congr 1
    rw [Bool.eq_iff_iff, List.all_eq_true, List.all_eq_true]
    refine forall_congr' fun j => forall_congr' fun hj => ?_
    rw [List.mem_range] at hj
    rw [eqk_move hc hs ha k _ _ (hc s h1 j hj) (hc u h2 j hj), hs s h1 j hj, hs u h2 j hj]
theorem Fold.order (h : Fold acc δ W s0 O f m δ' acc') : distinct (O.map f) = List.range m := by
  have b : Bfs (rowOf δ' W) (f s0) (distinct (O.map f)) := h.ord.map fun s hs => by
    unfold rowOf
    rw [List.map_map]
    exact List.map_congr_left fun j hj => (h.step s hs j (List.mem_range.mp hj)).symm
  rw [h.start] at b
  exact b.unique h.bfs
theorem Fold.lt (h : Fold acc δ W s0 O f m δ' acc') {s : α} (hs : s ∈ O) : f s < m := by
  have : f s ∈ distinct (O.map f) := distinct_mem.mpr (List.mem_map_of_mem hs)
  rw [h.order] at this
  exact List.mem_range.mp this
theorem Fold.onto (h : Fold acc δ W s0 O f m δ' acc') {i : Nat} (hi : i < m) : ∃ s ∈ O, f s = i := by
  have : i ∈ distinct (O.map f) := by rw [h.order]; exact List.mem_range.mpr hi
  exact List.mem_map.mp (distinct_mem.mp this)
theorem Fold.move (h : Fold acc δ W s0 O f m δ' acc') (k : Nat) {s u : α} (hs : s ∈ O) (hu : u ∈ O) : eqk acc δ W k s u = eqk acc' δ' W k (f s) (f u) :=
  eqk_move (fun s hs j hj => h.ord.clS hs hj) h.step h.acc k s u hs hu
theorem Fold.kind (h : Fold acc δ W s0 O f m δ' acc') {s u : α} (hs : s ∈ O) (hu : u ∈ O) : f s = f u ↔ Alike acc δ W s u := by
  constructor
  · intro e k
    rw [h.move k hs hu, e]
    exact (eqk_eqr k).refl _
  · intro e
    refine h.red _ _ (h.lt hs) (h.lt hu) fun k => ?_
    rw [← h.move k hs hu]
    exact e k
theorem num_self {κ : Type} [DecidableEq κ] : ∀ {K : List κ}, K.Nodup → K.map (num K) = List.range K.length := fun {K} h => by
  refine List.ext_getElem (by simp) fun i h1 h2 => ?_
  rw [List.getElem_map, List.getElem_range]
  unfold num
  exact h.idxOf_getElem i (by simpa using h1)
theorem num_range {m i : Nat} (h : i < m) : num (List.range m) i = i := by
  have := num_self (List.nodup_range (n := m))
  have e := congrArg (fun l : List Nat => l[i]?) this
  simpa [List.getElem?_range, h] using e
/-- numbers by kinds are the states of the least automaton -/
theorem Fold.num (h : Fold acc δ W s0 O f m δ' acc') {κ : Type} [DecidableEq κ] (σ : α → κ) (hk : ∀ s ∈ O, ∀ u ∈ O, (σ s = σ u ↔ Alike acc δ W s u)) {s : α} (hs : s ∈ O) : PM.num (distinct (O.map σ)) (σ s) = f s := by
  obtain ⟨L, h1, h2, h3⟩ := num_kinds σ f O fun a ha b hb => (hk a ha b hb).trans (h.kind ha hb).symm
  have hs' : σ s ∈ L.map σ := by rw [← h2]; exact distinct_mem.mpr (List.mem_map_of_mem hs)
  obtain ⟨a, ha, e⟩ := List.mem_map.mp hs'
  have e2 : f a = f s := ((hk a (h1 a ha) s hs).trans (h.kind (h1 a ha) hs).symm).mp e
  obtain ⟨i, hi, rfl⟩ := List.mem_iff_getElem.mp ha
  have n1 : (L.map σ).Nodup := by rw [← h2]; exact distinct_nodup _
  have n3 : (L.map f).Nodup := by rw [← h3]; exact distinct_nodup _
  have q1 : PM.num (L.map σ) (σ s) = i := by
    rw [← e]
    unfold PM.num
    have := n1.idxOf_getElem i (by simpa using hi)
    rwa [List.getElem_map] at this
  have q3 : PM.num (L.map f) (f s) = i := by
    rw [← e2]
    unfold PM.num
    have := n3.idxOf_getElem i (by simpa using hi)
    rwa [List.getElem_map] at this
  rw [h2, q1, ← q3, ← h3, h.order, num_range (h.lt hs)]
theorem alike_refl (s : α) : Alike acc δ W s s := fun k => (eqk_eqr k).refl s
theorem alike_symm {s u : α} (h : Alike acc δ W s u) : Alike acc δ W u s := fun k => (eqk_eqr k).symm _ _ (h k)
theorem alike_trans {s u v : α} (h : Alike acc δ W s u) (h2 : Alike acc δ W u v) : Alike acc δ W s v := fun k => (eqk_eqr k).trans _ _ _ (h k) (h2 k)
open Classical in
/-- there is one -/
theorem fold_ex (acc : α → γ) (δ : α → Nat → α) (W : Nat) (s0 : α) (O : List α) (b : Bfs (rowOf δ W) s0 O) : ∃ f m δ' acc', Fold acc δ W s0 O f m δ' acc' := by
  obtain ⟨σ, hσ⟩ : ∃ σ : α → α, σ = fun s => (O.find? fun r => decide (Alike acc δ W r s)).getD s := ⟨_, rfl⟩
  have s1 : ∀ s ∈ O, σ s ∈ O ∧ Alike acc δ W (σ s) s := fun s hs => by
    rw [hσ]
    show (O.find? fun r => decide (Alike acc δ W r s)).getD s ∈ O ∧ Alike acc δ W ((O.find? fun r => decide (Alike acc δ W r s)).getD s) s
    cases e : O.find? fun r => decide (Alike acc δ W r s) with
    | none =>
      have := List.find?_eq_none.mp e s hs
      exact (this (decide_eq_true (alike_refl s))).elim
    | some r => exact ⟨List.mem_of_find?_eq_some e, of_decide_eq_true (List.find?_some (p := fun r => decide (Alike acc δ W r s)) e)⟩
  have s2 : ∀ s ∈ O, ∀ u ∈ O, (σ s = σ u ↔ Alike acc δ W s u) := fun s hs u hu => by
    constructor
    · intro e
      exact alike_trans (alike_symm (s1 s hs).2) (e ▸ (s1 u hu).2)
    · intro e
      have p : (fun r => decide (Alike acc δ W r s)) = fun r => decide (Alike acc δ W r u) := funext fun r => decide_eq_decide.mpr ⟨fun q => alike_trans q e, fun q => alike_trans q (alike_symm e)⟩
      have t1 := hσ ▸ rfl (a := σ s)
      have z : ∀ v, σ v = (O.find? fun r => decide (Alike acc δ W r v)).getD v := fun v => by rw [hσ]
      rw [z s, z u, p]
      cases e2 : O.find? fun r => decide (Alike acc δ W r u) with
      | none =>
        have := List.find?_eq_none.mp e2 u hu
        exact (this (decide_eq_true (alike_refl u))).elim
      | some r => rfl
  obtain ⟨K, hK⟩ : ∃ K, distinct (O.map σ) = K := ⟨_, rfl⟩
  have nd : K.Nodup := by rw [← hK]; exact distinct_nodup _
  have mem : ∀ x, x ∈ K ↔ ∃ s ∈ O, σ s = x := fun x => by rw [← hK, distinct_mem, List.mem_map]
  have memO : ∀ x ∈ K, x ∈ O ∧ σ x = x := fun x hx => by
    obtain ⟨s, hs, rfl⟩ := (mem x).mp hx
    exact ⟨(s1 s hs).1, (s2 _ (s1 s hs).1 s hs).mpr (s1 s hs).2⟩
  have hf : ∀ s ∈ O, ∀ u ∈ O, (num K (σ s) = num K (σ u) ↔ Alike acc δ W s u) := fun s hs u hu => by
    rw [← s2 s hs u hu]
    exact ⟨num_inj ((mem _).mpr ⟨s, hs, rfl⟩) ((mem _).mpr ⟨u, hu, rfl⟩), fun e => by rw [e]⟩
  have hl : ∀ i, i < K.length → (K.getD i s0 ∈ O ∧ num K (σ (K.getD i s0)) = i) := fun i hi => by
    have e : K.getD i s0 = K[i] := by simp [hi]
    obtain ⟨h1, h2⟩ := memO _ (List.getElem_mem hi)
    rw [e, h2]
    refine ⟨h1, ?_⟩
    unfold num
    exact nd.idxOf_getElem i hi
  have hlead : ∀ s ∈ O, num K (σ s) < K.length ∧ Alike acc δ W (K.getD (num K (σ s)) s0) s := fun s hs => by
    have lt := num_lt ((mem (σ s)).mpr ⟨s, hs, rfl⟩)
    obtain ⟨h1, h2⟩ := hl _ lt
    exact ⟨lt, (hf _ h1 s hs).mp h2⟩
  have hst : ∀ s ∈ O, ∀ j, j < W → num K (σ (δ s j)) = num K (σ (δ (K.getD (num K (σ s)) s0) j)) := fun s hs j hj => by
    obtain ⟨lt, al⟩ := hlead s hs
    obtain ⟨h1, _⟩ := hl _ lt
    exact ((hf _ (b.clS h1 hj) _ (b.clS hs hj)).mpr (al.step hj)).symm
  have hac : ∀ s ∈ O, acc s = acc (K.getD (num K (σ s)) s0) := fun s hs => ((hlead s hs).2.same).symm
  have h00 : num K (σ s0) = 0 := by
    obtain ⟨r, hr⟩ := b.stage_pre 0
    rw [stage_zero] at hr
    have : ∃ q, K = [σ s0] ++ q := by
      rw [← hK, hr, List.map_append]
      obtain ⟨q, hq⟩ := fold_pre (r.map σ) (distinct ([s0].map σ))
      exact ⟨q, by rw [distinct_app, hq]; rfl⟩
    obtain ⟨q, hq⟩ := this
    rw [hq]
    show num (σ s0 :: q) (σ s0) = 0
    rw [num_cons, if_pos rfl]
  have hord : distinct (O.map fun s => num K (σ s)) = List.range K.length := by
    have e : O.map (fun s => num K (σ s)) = (O.map σ).map (num K) := by rw [List.map_map]; rfl
    rw [e, ← distinct_map, hK, num_self nd, distinct_id List.nodup_range]
  refine ⟨fun s => num K (σ s), K.length, fun i j => num K (σ (δ (K.getD i s0) j)), fun i => acc (K.getD i s0), b, h00, hst, hac, fun i k hi hk al => ?_, ?_⟩
  · obtain ⟨i1, i2⟩ := hl i hi
    obtain ⟨k1, k2⟩ := hl k hk
    have : Alike acc δ W (K.getD i s0) (K.getD k s0) := fun n => by
      have := eqk_move (f := fun s => num K (σ s)) (δ' := fun i j => num K (σ (δ (K.getD i s0) j))) (acc' := fun i => acc (K.getD i s0)) (fun s hs j hj => b.clS hs hj) hst hac n _ _ i1 k1
      rw [this]
      show eqk _ _ W n (num K (σ (K.getD i s0))) (num K (σ (K.getD k s0))) = true
      rw [i2, k2]
      exact al n
    have := (hf _ i1 _ k1).mpr this
    rw [i2, k2] at this
    exact this
  · have := b.map (f := fun s => num K (σ s)) (row' := rowOf (fun i j => num K (σ (δ (K.getD i s0) j))) W) fun s hs => by
      unfold rowOf
      rw [List.map_map]
      exact List.map_congr_left fun j hj => (hst s hs j (List.mem_range.mp hj)).symm
    rw [hord] at this
    simp only [h00] at this
    exact this
/-- words -/
theorem Fold.word (h : Fold acc δ W s0 O f m δ' acc') : ∀ (ks : List Nat) (s : α), s ∈ O → (∀ k ∈ ks, k < W) → f (ks.foldl δ s) = ks.foldl δ' (f s) ∧ ks.foldl δ s ∈ O
  | [], s, hs, _ => ⟨rfl, hs⟩
  | k :: ks, s, hs, hk => by
    have hj := hk k List.mem_cons_self
    have := h.word ks (δ s k) (h.ord.clS hs hj) fun j hj => hk j (List.mem_cons_of_mem _ hj)
    rw [List.foldl_cons, List.foldl_cons, ← h.step s hs k hj]
    exact this
/-- the least automaton of itself -/
theorem Fold.self (h : Fold acc δ W s0 O f m δ' acc') : Fold acc' δ' W 0 (List.range m) (fun i => i) m δ' acc' := ⟨h.bfs, rfl, fun _ _ _ _ => rfl, fun _ _ => rfl, h.red, h.bfs⟩
end
end PM

/-! PM7: the least automaton hangs on the words alone. Plain Lean. -/
namespace PM
section
variable {α β : Type} [DecidableEq α] [DecidableEq β]
/-- each state by a word -/
theorem reach_word {δ : α → Nat → α} {W : Nat} {s0 : α} {O : List α} (b : Bfs (rowOf δ W) s0 O) : ∀ s ∈ O, ∃ ks : List Nat, (∀ k ∈ ks, k < W) ∧ ks.foldl δ s0 = s := by
  have key : ∀ n, ∀ s ∈ O.take n, ∃ ks : List Nat, (∀ k ∈ ks, k < W) ∧ ks.foldl δ s0 = s := by
    intro n
    induction n with
    | zero => intro s hs; simp at hs
    | succ n ih =>
      intro s hs
      rw [List.take_add_one] at hs
      rcases List.mem_append.mp hs with hs | hs
      · exact ih s hs
      · cases e : O[n]? with
        | none => rw [e] at hs; simp at hs
        | some x =>
          rw [e] at hs
          have hx : s = x := by simpa using hs
          subst hx
          by_cases n0 : n = 0
          · subst n0
            obtain ⟨r, hr⟩ := b.stage_pre 0
            rw [stage_zero] at hr
            rw [hr] at e
            have : s0 = s := by simpa using e
            exact ⟨[], by simp, this⟩
          · have hn : n < O.length := (List.getElem?_eq_some_iff.mp e).1
            have es : O = O.take n ++ s :: O.drop (n + 1) := by
              have : s = O[n] := (List.getElem?_eq_some_iff.mp e).2.symm
              rw [this, List.getElem_cons_drop, List.take_append_drop]
            obtain ⟨y, hy, hx⟩ := b.early _ _ _ es fun q => by
              have := congrArg List.length q
              rw [List.length_take, List.length_nil] at this
              omega
            obtain ⟨j, hj, rfl⟩ := mem_rowOf.mp hx
            obtain ⟨ks, h1, h2⟩ := ih y hy
            refine ⟨ks ++ [j], fun k hk => ?_, ?_⟩
            · rcases List.mem_append.mp hk with hk | hk
              · exact h1 k hk
              · rw [List.mem_singleton.mp hk]; exact hj
            · rw [List.foldl_append, h2]; rfl
  intro s hs
  exact key O.length s (by rw [List.take_length]; exact hs)
theorem alike_words {γ : Type} [BEq γ] [LawfulBEq γ] {acc : α → γ} {δ : α → Nat → α} {W : Nat} : ∀ {s u : α}, (∀ ks : List Nat, (∀ k ∈ ks, k < W) → acc (ks.foldl δ s) = acc (ks.foldl δ u)) → Alike acc δ W s u := by
  intro s u h k
  induction k generalizing s u with
  | zero =>
    show (acc s == acc u) = true
    exact beq_iff_eq.mpr (h [] (by simp))
  | succ k ih =>
    refine eqk_succ.mpr ⟨ih h, fun j hj => ih fun ks hk => ?_⟩
    exact h (j :: ks) fun i hi => by
      rcases List.mem_cons.mp hi with hi | hi
      · rw [hi]; exact hj
      · exact hk i hi
variable {γ : Type} [BEq γ] [LawfulBEq γ] {acc1 : α → γ} {δ1 : α → Nat → α} {W : Nat} {s1 : α} {O1 : List α} {f1 : α → Nat} {m1 : Nat} {d1 : Nat → Nat → Nat} {a1 : Nat → γ}
  {acc2 : β → γ} {δ2 : β → Nat → β} {s2 : β} {O2 : List β} {f2 : β → Nat} {m2 : Nat} {d2 : Nat → Nat → Nat} {a2 : Nat → γ}
theorem Fold.says (F : Fold acc1 δ1 W s1 O1 f1 m1 d1 a1) (ks : List Nat) (hk : ∀ k ∈ ks, k < W) : a1 (ks.foldl d1 0) = acc1 (ks.foldl δ1 s1) ∧ ks.foldl d1 0 < m1 := by
  obtain ⟨h1, h2⟩ := F.word ks s1 F.ord.start hk
  rw [F.start] at h1
  rw [← h1]
  exact ⟨(F.acc _ h2).symm, F.lt h2⟩
open Classical in
theorem fold_same (F1 : Fold acc1 δ1 W s1 O1 f1 m1 d1 a1) (F2 : Fold acc2 δ2 W s2 O2 f2 m2 d2 a2) (hw : ∀ ks : List Nat, (∀ k ∈ ks, k < W) → acc1 (ks.foldl δ1 s1) = acc2 (ks.foldl δ2 s2)) :
    m1 = m2 ∧ (∀ i, i < m1 → ∀ j, j < W → d1 i j = d2 i j) ∧ ∀ i, i < m1 → a1 i = a2 i := by
  have hq : ∀ ks : List Nat, (∀ k ∈ ks, k < W) → a1 (ks.foldl d1 0) = a2 (ks.foldl d2 0) := fun ks hk => by
    rw [(F1.says ks hk).1, (F2.says ks hk).1]
    exact hw ks hk
  have wd : ∀ ks ks' : List Nat, (∀ k ∈ ks, k < W) → (∀ k ∈ ks', k < W) → ks.foldl d1 0 = ks'.foldl d1 0 → ks.foldl d2 0 = ks'.foldl d2 0 := fun ks ks' h h' e => by
    refine F2.red _ _ (F2.says ks h).2 (F2.says ks' h').2 (alike_words fun ws hws => ?_)
    have h3 : ∀ k ∈ ks ++ ws, k < W := fun k hk => (List.mem_append.mp hk).elim (h k) (hws k)
    have h4 : ∀ k ∈ ks' ++ ws, k < W := fun k hk => (List.mem_append.mp hk).elim (h' k) (hws k)
    rw [← List.foldl_append, ← List.foldl_append, ← hq _ h3, ← hq _ h4, List.foldl_append, List.foldl_append, e]
  have rw1 : ∀ i, i < m1 → ∃ ks : List Nat, (∀ k ∈ ks, k < W) ∧ ks.foldl d1 0 = i := fun i hi => reach_word F1.bfs i (List.mem_range.mpr hi)
  obtain ⟨g, hg⟩ : ∃ g : Nat → Nat, ∀ ks : List Nat, (∀ k ∈ ks, k < W) → g (ks.foldl d1 0) = ks.foldl d2 0 := by
    refine ⟨fun i => if h : i < m1 then (choose (rw1 i h)).foldl d2 0 else 0, fun ks hk => ?_⟩
    have hi := (F1.says ks hk).2
    show (if h : ks.foldl d1 0 < m1 then (choose (rw1 _ h)).foldl d2 0 else 0) = _
    rw [dif_pos hi]
    obtain ⟨c1, c2⟩ := choose_spec (rw1 _ hi)
    exact wd _ _ c1 hk c2
  have G : Fold a1 d1 W 0 (List.range m1) g m2 d2 a2 := by
    refine ⟨F1.bfs, hg [] (by simp), fun i hi j hj => ?_, fun i hi => ?_, F2.red, F2.bfs⟩
    · obtain ⟨ks, h1, rfl⟩ := rw1 i (List.mem_range.mp hi)
      have h2 : ∀ k ∈ ks ++ [j], k < W := fun k hk => by
        rcases List.mem_append.mp hk with hk | hk
        · exact h1 k hk
        · rw [List.mem_singleton.mp hk]; exact hj
      have := hg _ h2
      rw [List.foldl_append, List.foldl_append] at this
      rw [hg ks h1]
      exact this
    · obtain ⟨ks, h1, rfl⟩ := rw1 i (List.mem_range.mp hi)
      rw [hg ks h1]
      exact hq ks h1
  have I := F1.self
  have gi : ∀ i, i < m1 → g i = i := fun i hi => by
    have n := G.num (σ := fun i : Nat => i) (fun s hs u hu => I.kind hs hu) (s := i) (List.mem_range.mpr hi)
    rw [List.map_id', distinct_id List.nodup_range, num_range hi] at n
    exact n.symm
  have hm : m1 = m2 := by
    have o := G.order
    have e : (List.range m1).map g = List.range m1 := by
      conv => rhs; rw [← List.map_id (List.range m1)]
      exact List.map_congr_left fun i hi => gi i (List.mem_range.mp hi)
    rw [e, distinct_id List.nodup_range] at o
    have := congrArg List.length o
    simpa using this
  refine ⟨hm, fun i hi j hj => ?_, fun i hi => ?_⟩
  · have lt : d1 i j < m1 := by
      have := I.ord.clS (List.mem_range.mpr hi) hj
      exact List.mem_range.mp this
    have := G.step i (List.mem_range.mpr hi) j hj
    rw [gi _ lt, gi i hi] at this
    exact this
  · have := G.acc i (List.mem_range.mpr hi)
    rw [gi i hi] at this
    exact this
end
end PM

/-! PM5: data equal themselves. Plain Lean. -/
namespace FL
open PySem L2
def RefD (n : Nat) (d : D) : Prop := ∃ p, py d = some p ∧ p.canLay0 = true ∧ p.depth ≤ n ∧ PyData.eqv p p = true
theorem RefD.eq {n : Nat} {d : D} (h : RefD n d) (hn : n ≤ 64 := by decide) : eqD d d = .ok (.bl true) := by
  obtain ⟨p, h1, h2, h3, h4⟩ := h
  unfold eqD
  rw [h1]
  show (if _ then _ else _) = _
  rw [if_pos ⟨shaped_of h2 h3 hn, shaped_of h2 h3 hn⟩, h4]
theorem RefD.ne {n : Nat} {d : D} (h : RefD n d) (hn : n ≤ 64 := by decide) : neD d d = .ok (.bl false) := by
  obtain ⟨p, h1, h2, h3, h4⟩ := h
  unfold neD
  rw [h1]
  show (if _ then _ else _) = _
  rw [if_pos ⟨shaped_of h2 h3 hn, shaped_of h2 h3 hn⟩, h4]
  rfl
theorem RefD.mono {n m : Nat} {d : D} (h : RefD n d) (hm : n ≤ m) : RefD m d := by
  obtain ⟨p, h1, h2, h3, h4⟩ := h
  exact ⟨p, h1, h2, by omega, h4⟩
theorem EncOk.ref {α : Type} [DecidableEq α] {enc : α → D} {n : Nat} (E : EncOk enc n) (a : α) : RefD n (enc a) := by
  obtain ⟨p, h1, h2, h3, h4⟩ := E
  exact ⟨p a, h1 a, h2 a, h3 a, by rw [h4]; exact decide_eq_true rfl⟩
theorem ref_int (i : Int) : RefD 0 (.int i) := encI.ref i
theorem ref_non : RefD 0 .non := ⟨.none, rfl, rfl, Nat.le_refl _, rfl⟩
theorem ref_bl (b : Bool) : RefD 0 (.bl b) := ⟨.bool b, rfl, rfl, Nat.le_refl _, by cases b <;> rfl⟩
theorem refs {n : Nat} : ∀ {ds : List D}, (∀ d ∈ ds, RefD n d) → ∃ ps, pys ds = some ps ∧ PyData.canLayAll0 ps = true ∧ PyData.depthAll ps ≤ n ∧ PyData.eqvAll ps ps = true
  | [], _ => ⟨[], rfl, rfl, Nat.zero_le _, rfl⟩
  | d :: ds, h => by
    obtain ⟨p, h1, h2, h3, h4⟩ := h d List.mem_cons_self
    obtain ⟨ps, k1, k2, k3, k4⟩ := refs fun d hd => h d (List.mem_cons_of_mem _ hd)
    refine ⟨p :: ps, by simp [pys, h1, k1], by simp [PyData.canLayAll0, h2, k2], ?_, by simp [PyData.eqvAll, h4, k4]⟩
    simp only [PyData.depthAll]
    omega
theorem ref_tup {n : Nat} {ds : List D} (h : ∀ d ∈ ds, RefD n d) : RefD (n + 1) (.tup ds) := by
  obtain ⟨ps, k1, k2, k3, k4⟩ := refs h
  exact ⟨.tuple ps, by simp [py, k1], by simp [PyData.canLay0, k2], by simp only [PyData.depth]; omega, by simp [PyData.eqv, k4]⟩
theorem ref_lst {n : Nat} {ds : List D} (h : ∀ d ∈ ds, RefD n d) : RefD (n + 1) (.lst ds) := by
  obtain ⟨ps, k1, k2, k3, k4⟩ := refs h
  exact ⟨.list ps, by simp [py, k1], by simp [PyData.canLay0, k2], by simp only [PyData.depth]; omega, by simp [PyData.eqv, k4]⟩
end FL

/-! PS1: tables of sequences, digits, pairs. Plain Lean. -/
namespace SQ
open PySem L2 FL PM
def rowN (R : List (List Int)) (s : Int) : List Int := (R[s.toNat]?).getD []
def stepN (R : List (List Int)) (s : Int) (k : Nat) : Int := getN (rowN R s) k
abbrev Rg (R : List (List Int)) (s : Int) : Prop := 0 ≤ s ∧ s < R.length
/-- a table of rows of b states, and their outputs -/
structure Ok (b : Nat) (R : List (List Int)) (O : List Int) : Prop where
  b2 : 2 ≤ b
  b4 : b ≤ 4
  pos : 0 < R.length
  top : R.length ≤ 2000
  rows : ∀ r ∈ R, r.length = b ∧ ∀ s ∈ r, Rg R s
  olen : O.length = R.length
  outs : ∀ o ∈ O, 0 ≤ o ∧ o ≤ 9
theorem row_at {l : List Int} {j : Nat} (h : j < l.length) : FL.getD (eT l) (.int (j : Nat)) = .ok (.int (getN l j)) := by
  refine getT_map (enc := D.int) (ds := l) (by omega) ?_
  simp [getN, h]

section
variable {b : Nat} {R : List (List Int)} {O : List Int}
theorem row_mem {s : Int} (hs : Rg R s) : rowN R s ∈ R := by
  have h : s.toNat < R.length := by omega
  unfold rowN
  rw [List.getElem?_eq_getElem h]
  exact List.getElem_mem h
theorem row_get {s : Int} (hs : Rg R s) : FL.getD (eTT R) (.int s) = .ok (eT (rowN R s)) := by
  have h : s.toNat < R.length := by omega
  refine getT_map (enc := eT) hs.1 ?_
  unfold rowN
  rw [List.getElem?_eq_getElem h]
  rfl
theorem row_getL {s : Int} (hs : Rg R s) : FL.getD (eLT R) (.int s) = .ok (eT (rowN R s)) := by
  have h : s.toNat < R.length := by omega
  refine getD_map (enc := eT) hs.1 ?_
  unfold rowN
  rw [List.getElem?_eq_getElem h]
  rfl
theorem Ok.rlen (h : Ok b R O) {s : Int} (hs : Rg R s) : (rowN R s).length = b := (h.rows _ (row_mem hs)).1
theorem Ok.step (h : Ok b R O) {s : Int} (hs : Rg R s) {j : Nat} (hj : j < b) : Rg R (stepN R s j) := by
  refine (h.rows _ (row_mem hs)).2 _ (getN_mem (by omega) ?_)
  have := h.rlen hs
  omega
theorem Ok.item (h : Ok b R O) {s : Int} (hs : Rg R s) {j : Nat} (hj : j < b) : FL.getD (eT (rowN R s)) (.int (j : Nat)) = .ok (.int (stepN R s j)) := row_at (by rw [h.rlen hs]; exact hj)
theorem Ok.out (h : Ok b R O) {s : Int} (hs : Rg R s) : FL.getD (eT O) (.int s) = .ok (.int (getN O s)) := getT_ints hs.1 (by rw [h.olen]; exact hs.2)
theorem Ok.outR (h : Ok b R O) {s : Int} (hs : Rg R s) : 0 ≤ getN O s ∧ getN O s ≤ 9 := h.outs _ (getN_mem hs.1 (by rw [h.olen]; exact hs.2))
theorem Ok.word (h : Ok b R O) : ∀ (ks : List Nat) (s : Int), (∀ k ∈ ks, k < b) → Rg R s → Rg R (ks.foldl (stepN R) s)
  | [], s, _, hs => hs
  | k :: ks, s, hk, hs => h.word ks _ (fun j hj => hk j (List.mem_cons_of_mem _ hj)) (h.step hs (hk k List.mem_cons_self))
theorem Ok.in0 (h : Ok b R O) : Rg R 0 := ⟨Int.le_refl _, by have := h.pos; omega⟩
end
/-! digits, the highest first -/
def dg (b n : Nat) : List Nat := if h : 2 ≤ b ∧ 0 < n then dg b (n / b) ++ [n % b] else []
termination_by n
decreasing_by exact Nat.div_lt_self h.2 h.1
theorem dg_zero (b : Nat) : dg b 0 = [] := by
  rw [dg, dif_neg (by omega)]
theorem dg_pos {b n : Nat} (hb : 2 ≤ b) (hn : 0 < n) : dg b n = dg b (n / b) ++ [n % b] := by
  conv => lhs; rw [dg]
  rw [dif_pos ⟨hb, hn⟩]
theorem dg_lt {b : Nat} (hb : 2 ≤ b) (n : Nat) : ∀ d ∈ dg b n, d < b := by
  induction n using Nat.strongRecOn with
  | _ n ih =>
    by_cases h : n = 0
    · rw [h, dg_zero]; simp
    · rw [dg_pos hb (by omega)]
      intro d hd
      rcases List.mem_append.mp hd with hd | hd
      · exact ih (n / b) (Nat.div_lt_self (by omega) hb) d hd
      · rw [List.mem_singleton.mp hd]
        exact Nat.mod_lt n (by omega)
theorem dg_len {b : Nat} (hb : 2 ≤ b) : ∀ (k n : Nat), n < b ^ k → (dg b n).length ≤ k
  | 0, n, h => by
    have : n = 0 := by simpa using h
    rw [this, dg_zero]
    simp
  | k + 1, n, h => by
    by_cases h0 : n = 0
    · rw [h0, dg_zero]; simp
    · rw [dg_pos hb (by omega), List.length_append]
      have : n / b < b ^ k := by
        rw [Nat.div_lt_iff_lt_mul (by omega)]
        rwa [Nat.pow_succ] at h
      have := dg_len hb k (n / b) this
      simp
      omega
theorem dg_step {b n : Nat} (hb : 2 ≤ b) (hn : 0 < n) : (dg b n).length = (dg b (n / b)).length + 1 := by
  rw [dg_pos hb hn, List.length_append]
  rfl
theorem dg_snoc {b n d : Nat} (hb : 2 ≤ b) (hd : d < b) (h : 0 < n * b + d) : dg b (n * b + d) = dg b n ++ [d] := by
  rw [dg_pos hb h]
  have e1 : (n * b + d) / b = n := by
    rw [Nat.mul_comm, Nat.mul_add_div (by omega), Nat.div_eq_of_lt hd]
    rfl
  have e2 : (n * b + d) % b = d := by
    rw [Nat.mul_comm, Nat.mul_add_mod, Nat.mod_eq_of_lt hd]
  rw [e1, e2]
abbrev eNl (l : List Nat) : D := .lst (l.map fun d : Nat => D.int (d : Int))
abbrev eNt (l : List Nat) : D := .tup (l.map fun d : Nat => D.int (d : Int))
/-! pairs as keys -/
abbrev pL (p : Int × Int) : List Int := [p.1, p.2]
abbrev pI (p : Int × Int) : D := eT (pL p)
theorem pI0 (p : Int × Int) : FL.getD (pI p) (.int 0) = .ok (.int p.1) := id rfl
theorem pI1 (p : Int × Int) : FL.getD (pI p) (.int 1) = .ok (.int p.2) := id rfl
def kT (l : List Int) : NestedKey := .tup (l.map .num)
theorem kT_inj {a b : List Int} (h : kT a = kT b) : a = b := by
  unfold kT at h
  injection h with h
  induction a generalizing b with
  | nil => cases b with
    | nil => rfl
    | cons y b => cases h
  | cons x a ih => cases b with
    | nil => cases h
    | cons y b =>
      rw [List.map_cons, List.map_cons] at h
      injection h with h1 h2
      injection h1 with h1
      rw [h1, ih h2]
theorem nks_ints (l : List Int) : nks (l.map D.int) = some (l.map .num) := by
  induction l with
  | nil => rfl
  | cons a r ih => simp [nks, nk, ih]
theorem nkT_ints (l : List Int) : nkT (eT l) = some (kT l) := by
  show ((nks (l.map D.int)).bind fun ks => if (NestedKey.tup ks).depth ≤ 8 then some (NestedKey.tup ks) else none) = _
  rw [nks_ints, Option.bind_some, if_pos]
  · rfl
  · have : ∀ l : List Int, NestedKey.depthAll (l.map .num) = 0 := fun l => by
      induction l with
      | nil => rfl
      | cons a r ih => simp [NestedKey.depthAll, NestedKey.depth, ih]
    show NestedKey.depthAll (l.map .num) + 1 ≤ 8
    rw [this]
    omega
theorem lk_ent {α κ : Type} [DecidableEq α] [DecidableEq κ] (key : α → κ) (hk : ∀ a b, key a = key b → a = b) (val : α × List Nat → D) : ∀ {L : List (α × List Nat)}, (L.map Prod.fst).Nodup → ∀ e ∈ L, lk (L.map fun e => (key e.1, val e)) (key e.1) = some (val e)
  | [], _, e, he => nomatch he
  | a :: L, hn, e, he => by
    rw [List.map_cons, lk_cons]
    rw [List.map_cons] at hn
    obtain ⟨n1, n2⟩ := List.nodup_cons.mp hn
    rcases List.mem_cons.mp he with rfl | he
    · rw [if_pos rfl]
    · have : ¬ key a.1 = key e.1 := fun q => n1 (by rw [hk _ _ q]; exact List.mem_map_of_mem he)
      rw [if_neg this]
      exact lk_ent key hk val n2 e he
theorem lk_out {α κ : Type} [DecidableEq α] [DecidableEq κ] (key : α → κ) (hk : ∀ a b, key a = key b → a = b) (val : α × List Nat → D) : ∀ {L : List (α × List Nat)} {x : α}, (lk (L.map fun e => (key e.1, val e)) (key x)).isSome = decide (x ∈ L.map Prod.fst)
  | [], x => by simp [lk]
  | a :: L, x => by
    rw [List.map_cons, lk_cons, List.map_cons]
    by_cases q : key a.1 = key x
    · have := hk _ _ q
      rw [if_pos q, this]
      simp
    · have : ¬ x = a.1 := fun z => q (by rw [z])
      rw [if_neg q, lk_out key hk val]
      simp [this]
abbrev kP (p : Int × Int) : NestedKey := kT (pL p)
theorem kP_inj (a b : Int × Int) (h : kP a = kP b) : a = b := by
  have := kT_inj h
  simp at this
  exact Prod.ext this.1 this.2
theorem nlk_pI (M : List (NestedKey × D)) (p : Int × Int) : nlk (.dN M) (pI p) = some (lk M (kP p)) := by
  show Option.map _ (nkT (pI p)) = _
  rw [show nkT (pI p) = some (kP p) from nkT_ints (pL p)]
  rfl
theorem row_list {W : Nat} {l : List Int} (h : l.length = W) : l.map D.int = (List.range W).map fun j => D.int (getN l (j : Nat)) := by
  refine List.ext_getElem (by simp [h]) fun i h1 h2 => ?_
  have : i < l.length := by simpa using h1
  simp [getN, this]
theorem zipL_map (f g : Nat → Int) : ∀ (ns : List Nat), zipL (ns.map fun j => D.int (f j)) (ns.map fun j => D.int (g j)) = ns.map fun j => pI (f j, g j)
  | [] => rfl
  | n :: ns => by
    rw [List.map_cons, List.map_cons, zipL, zipL_map f g ns]
    rfl
theorem enumL_map (l : List Int) : ∀ n : Nat, enumL n (l.map D.int) = (List.range l.length).map fun i : Nat => D.tup [.int ((n + i : Nat) : Int), .int (getN l i)] := by
  induction l with
  | nil => intro n; rfl
  | cons x l ih =>
    intro n
    rw [List.map_cons, enumL, ih, List.length_cons, List.range_succ_eq_map, List.map_cons, List.map_map]
    congr 1
    refine List.map_congr_left fun i _ => ?_
    simp [getN, Nat.add_assoc, Nat.add_comm 1 i]
def allP (n1 n2 : Nat) : List (Int × Int) := (List.range n1).flatMap fun i : Nat => (List.range n2).map fun j : Nat => ((i : Int), (j : Int))
theorem mem_allP {n1 n2 : Nat} {p : Int × Int} : p ∈ allP n1 n2 ↔ 0 ≤ p.1 ∧ p.1 < n1 ∧ 0 ≤ p.2 ∧ p.2 < n2 := by
  unfold allP
  simp only [List.mem_flatMap, List.mem_range, List.mem_map]
  constructor
  · rintro ⟨i, hi, j, hj, rfl⟩
    exact ⟨by show (0 : Int) ≤ (i : Int); omega, by show (i : Int) < _; omega, by show (0 : Int) ≤ (j : Int); omega, by show (j : Int) < _; omega⟩
  · rintro ⟨h1, h2, h3, h4⟩
    exact ⟨p.1.toNat, by omega, p.2.toNat, by omega, Prod.ext (by show ((p.1.toNat : Nat) : Int) = p.1; omega) (by show ((p.2.toNat : Nat) : Int) = p.2; omega)⟩
theorem len_allP (n1 n2 : Nat) : (allP n1 n2).length = n1 * n2 := by
  unfold allP
  induction n1 with
  | zero => simp
  | succ n ih => rw [List.range_succ, List.flatMap_append, List.length_append, ih, Nat.succ_mul]; simp
theorem WOk.len {α : Type} [DecidableEq α] {δ : α → Nat → α} {W : Nat} {s0 : α} {k j : Nat} {L : List (α × List Nat)} (h : WOk δ W s0 k j L) : ∀ (i : Nat) (e : α × List Nat), L[i]? = some e → e.2.length ≤ i := by
  intro i
  induction i using Nat.strongRecOn with
  | ind i ih =>
    intro e he
    rcases h.par e (List.mem_of_getElem? he) with q | ⟨i', p, c, _, hp, hc, q⟩
    · rw [q]; exact Nat.zero_le _
    · obtain ⟨l1, e1⟩ := List.getElem?_eq_some_iff.mp hp
      obtain ⟨l2, e2⟩ := List.getElem?_eq_some_iff.mp he
      have lt : i' < i := by
        rcases Nat.lt_trichotomy i' i with z | z | z
        · exact z
        · subst z
          rw [hp] at he
          cases he
          have := congrArg List.length q
          simp at this
        · have := List.pairwise_iff_getElem.mp h.ord i i' l2 l1 z
          rw [e1, e2, q, codeW_snoc] at this
          have w1 : 1 ≤ W := by omega
          have : codeW W p.2 ≤ codeW W p.2 * W := Nat.le_mul_of_pos_right _ w1
          omega
      have := ih i' lt p hp
      rw [q, List.length_append, List.length_singleton]
      omega

def step2 (R1 R2 : List (List Int)) (p : Int × Int) (j : Nat) : Int × Int := (stepN R1 p.1 j, stepN R2 p.2 j)
def in2 (R1 R2 : List (List Int)) (p : Int × Int) : Prop := Rg R1 p.1 ∧ Rg R2 p.2
theorem fold2 (R1 R2 : List (List Int)) : ∀ (w : List Nat) (p q : Int), w.foldl (step2 R1 R2) (p, q) = (w.foldl (stepN R1) p, w.foldl (stepN R2) q)
  | [], p, q => rfl
  | j :: w, p, q => fold2 R1 R2 w _ _
theorem step2_in {b : Nat} {R1 R2 : List (List Int)} {O1 O2 : List Int} (h1 : Ok b R1 O1) (h2 : Ok b R2 O2) {p : Int × Int} (hp : in2 R1 R2 p) {j : Nat} (hj : j < b) : in2 R1 R2 (step2 R1 R2 p j) := ⟨h1.step hp.1 hj, h2.step hp.2 hj⟩
theorem nmem_pI (p : Int × Int) (L : List ((Int × Int) × List Nat)) : ninDp (pI p) (.lst (L.map fun e => pI e.1)) = .ok (.bl (!decide (p ∈ L.map Prod.fst))) := by
  have e : D.lst (L.map fun e => pI e.1) = .lst ((L.map fun e => pL e.1).map eT) := by rw [List.map_map]; rfl
  rw [e, ok_T.nmem]
  congr 3
  simp only [List.mem_map, decide_eq_decide]
  constructor
  · rintro ⟨a, ha, h⟩
    refine ⟨a, ha, ?_⟩
    simp at h
    exact Prod.ext h.1 h.2
  · rintro ⟨a, ha, h⟩
    exact ⟨a, ha, by rw [h]⟩
theorem strEq (a b : Str) (ha : PyData.strOk a = true := by decide +kernel) (hb : PyData.strOk b = true := by decide +kernel) : eqD (.str a) (.str b) = .ok (.bl (decide (a = b))) := by
  have h : ∀ a : Str, PyData.strOk a = true → SeqAt.shaped (.str a) = true := fun a h => shaped_of (n := 0) (by simp [PyData.canLay0, h]) (by simp [PyData.depth]) (by omega)
  show (if _ then _ else _) = _
  rw [if_pos ⟨h a ha, h b hb⟩]
  rfl
theorem strF (a b : Str) (ha : PyData.strOk a = true := by decide +kernel) (hb : PyData.strOk b = true := by decide +kernel) (h : decide (a = b) = false := by decide +kernel) : eqD (.str a) (.str b) = .ok (.bl false) := by
  rw [strEq a b ha hb, h]
theorem strT (a : Str) (ha : PyData.strOk a = true := by decide +kernel) : eqD (.str a) (.str a) = .ok (.bl true) := by
  rw [strEq a a ha ha, decide_eq_true rfl]
/-- a loop that only looks, and may hand back r -/
theorem forAll {body : SFn} {i : Nat} {Γ : Slots} (q : D → Bool) (r : D) : ∀ (ds : List D), (∀ d ∈ ds, i < Γ.length ∧ body (Γ.set i (.val d)) = if q d = true then .nx Γ else .rt r) → forD (gN i) body ds Γ = if ds.all q = true then .nx Γ else .rt r
  | [], _ => rfl
  | d :: ds, h => by
    obtain ⟨h1, h2⟩ := h d List.mem_cons_self
    have ih := forAll q r ds fun x hx => h x (List.mem_cons_of_mem _ hx)
    unfold forD
    rw [x_gN, if_pos h1, thenG_ok, h2, List.all_cons]
    cases hq : q d with
    | true =>
      rw [if_pos rfl, Bool.true_and]
      exact ih
    | false =>
      rw [if_neg Bool.false_ne_true, Bool.false_and, if_neg Bool.false_ne_true]
/-- the sequence as an object -/
def seqD (b : Nat) (R : List (List Int)) (O : List Int) : D := .ins 21 [.int b, eTT R, eT O]
theorem fld_seq (b : Nat) (R : List (List Int)) (O : List Int) : fldD 21 0 (seqD b R O) = .ok (.int b) ∧ fldD 21 1 (seqD b R O) = .ok (eTT R) ∧ fldD 21 2 (seqD b R O) = .ok (eT O) ∧ isC 21 (seqD b R O) = true := ⟨rfl, rfl, rfl, rfl⟩
def FirstIs (W : Nat) (P : List Nat → Bool) : Option (List Nat) → Prop
  | some w => IsFirst W P w
  | none => ∀ u : List Nat, (∀ j ∈ u, j < W) → P u = false
theorem FirstIs.unique {W : Nat} {P : List Nat → Bool} : ∀ {o o' : Option (List Nat)}, FirstIs W P o → FirstIs W P o' → o = o'
  | some w, some u, h, h' => by rw [IsFirst.unique h h']
  | some w, none, h, h' => by
    have := h' w h.1
    rw [h.2.1] at this
    cases this
  | none, some u, h, h' => by
    have := h u h'.1
    rw [h'.2.1] at this
    cases this
  | none, none, _, _ => rfl
def optD : Option (List Nat) → D
  | some w => eNt w
  | none => .non
section
variable {b : Nat} {R1 R2 : List (List Int)} {O1 O2 : List Int} {i j : Int}
/-- the pairs with their words -/
abbrev run2 (R1 R2 : List (List Int)) (b : Nat) (i j : Int) (k : Nat) : List ((Int × Int) × List Nat) := runW (step2 R1 R2) b (i, j) k
theorem run2_in (h1 : Ok b R1 O1) (h2 : Ok b R2 O2) (hi : Rg R1 i) (hj : Rg R2 j) (k : Nat) : ∀ e ∈ run2 R1 R2 b i j k, in2 R1 R2 e.1 := fun e he => by
  have := runW_sub (δ := step2 R1 R2) (W := b) (s0 := (i, j)) (S := allP R1.length R2.length) (mem_allP.mpr ⟨hi.1, hi.2, hj.1, hj.2⟩) (fun s hs j hj => by
    obtain ⟨a1, a2, a3, a4⟩ := mem_allP.mp hs
    obtain ⟨q1, q2⟩ := step2_in h1 h2 ⟨⟨a1, a2⟩, a3, a4⟩ hj
    exact mem_allP.mpr ⟨q1.1, q1.2, q2.1, q2.2⟩) k e he
  obtain ⟨a1, a2, a3, a4⟩ := mem_allP.mp this
  exact ⟨⟨a1, a2⟩, a3, a4⟩
theorem run2_len (h1 : Ok b R1 O1) (h2 : Ok b R2 O2) (hi : Rg R1 i) (hj : Rg R2 j) (k : Nat) : (run2 R1 R2 b i j k).length ≤ R1.length * R2.length := by
  have := runW_len (δ := step2 R1 R2) (W := b) (s0 := (i, j)) (S := allP R1.length R2.length) (mem_allP.mpr ⟨hi.1, hi.2, hj.1, hj.2⟩) (fun s hs j hj => by
    obtain ⟨a1, a2, a3, a4⟩ := mem_allP.mp hs
    obtain ⟨q1, q2⟩ := step2_in h1 h2 ⟨⟨a1, a2⟩, a3, a4⟩ hj
    exact mem_allP.mpr ⟨q1.1, q1.2, q2.1, q2.2⟩) k
  rwa [len_allP] at this
/-- the outputs differ -/
def diffP (O1 O2 : List Int) (p : Int × Int) : Bool := !decide (getN O1 p.1 = getN O2 p.2)
def diffW (R1 R2 : List (List Int)) (O1 O2 : List Int) (i j : Int) (w : List Nat) : Bool := diffP O1 O2 (w.foldl (step2 R1 R2) (i, j))
/-- the dict of words by pairs -/
def waysD (L : List ((Int × Int) × List Nat)) : D := .dN (L.map fun e => (kP e.1, eNt e.2))
theorem ways_in (L : List ((Int × Int) × List Nat)) (p : Int × Int) : nninD (pI p) (waysD L) = .ok (.bl (!decide (p ∈ L.map Prod.fst))) := by
  unfold nninD waysD
  rw [nlk_pI]
  show Res.ok (D.bl (!(lk _ (kP p)).isSome)) = _
  rw [lk_out kP kP_inj (fun e => eNt e.2)]
  congr 3
  exact decide_eq_decide.mpr Iff.rfl
theorem ways_get {L : List ((Int × Int) × List Nat)} (hn : (L.map Prod.fst).Nodup) {e : (Int × Int) × List Nat} (he : e ∈ L) : ngetD (waysD L) (pI e.1) = .ok (eNt e.2) := by
  unfold ngetD waysD
  rw [nlk_pI, lk_ent kP kP_inj (fun e => eNt e.2) hn e he]
theorem ways_put {L : List ((Int × Int) × List Nat)} {p : Int × Int} {w : List Nat} (h : ¬ p ∈ L.map Prod.fst) (hl : L.length < 16777216) : nput (waysD L) (pI p) (eNt w) = .ok (waysD (L ++ [(p, w)])) := by
  unfold nput waysD
  rw [show nkT (pI p) = some (kP p) from nkT_ints (pL p)]
  have q1 : putD (L.map fun e => (kP e.1, eNt e.2)) (kP p) (eNt w) = (L ++ [(p, w)]).map fun e => (kP e.1, eNt e.2) := by
    unfold putD
    rw [if_neg (by rw [lk_any, lk_out kP kP_inj (fun e => eNt e.2)]; simpa using h)]
    simp
  show (if _ then _ else _) = _
  rw [if_pos (by rw [List.length_map, show sizeLine = 16777216 by decide]; exact hl), q1]
/-- none of the first k pairs differs -/
def noneTo (R1 R2 : List (List Int)) (O1 O2 : List Int) (b : Nat) (i j : Int) (k : Nat) : Prop := ∀ n < k, ∀ e, (run2 R1 R2 b i j k)[n]? = some e → diffP O1 O2 e.1 = false
theorem noneTo_up {k : Nat} {e : (Int × Int) × List Nat} (h : noneTo R1 R2 O1 O2 b i j k) (he : (run2 R1 R2 b i j k)[k]? = some e) (hp : diffP O1 O2 e.1 = false) : noneTo R1 R2 O1 O2 b i j (k + 1) := fun n hn x hx => by
  obtain ⟨r, hr⟩ := runW_pre1 (δ := step2 R1 R2) (W := b) (s0 := (i, j)) k
  have hk := (List.getElem?_eq_some_iff.mp he).1
  unfold noneTo at h
  unfold run2 at hx he h hk
  rw [hr, List.getElem?_append_left (by omega)] at hx
  by_cases q : n = k
  · subst q
    rw [he] at hx
    cases hx
    exact hp
  · exact h n (by omega) x hx
end
/-- state 0 and the state behind 0 are parted by nothing -/
def Quiet (b : Nat) (R : List (List Int)) (O : List Int) : Prop := ∀ u : List Nat, (∀ j ∈ u, j < b) → diffW R R O O 0 (stepN R 0 0) u = false
theorem Quiet.of0 {b : Nat} {R : List (List Int)} {O : List Int} (h : stepN R 0 0 = 0) : Quiet b R O := fun u _ => by
  unfold diffW diffP
  rw [fold2, h]
  simp
end SQ

/-! PS2: what the least sequence is; kinds by words of growing length; leaders in order. Plain Lean. -/
namespace SQ
open PySem L2 FL PM
def tabS (b : Nat) (δ : Nat → Nat → Nat) (m : Nat) : List (List Int) := (List.range m).map fun s => (List.range b).map fun j => ((δ s j : Nat) : Int)
def outS (a : Nat → Int) (m : Nat) : List Int := (List.range m).map a
def states (R : List (List Int)) : List Int := (List.range R.length).map fun s : Nat => (s : Int)
section
variable {b : Nat} {R : List (List Int)} {O : List Int}
theorem mem_states {s : Int} : s ∈ states R ↔ Rg R s := by
  unfold states
  rw [List.mem_map]
  constructor
  · rintro ⟨n, h, rfl⟩
    rw [List.mem_range] at h
    exact ⟨by omega, by omega⟩
  · rintro ⟨h1, h2⟩
    exact ⟨s.toNat, List.mem_range.mpr (by omega), by omega⟩
theorem states_len : (states R).length = R.length := by simp [states]
abbrev outF (O : List Int) (s : Int) : Int := getN O s
/-- numbers by kinds of words of up to k letters -/
structure Blk (b : Nat) (R : List (List Int)) (O : List Int) (k : Nat) (B : Int → Nat) (c : Nat) : Prop where
  kind : ∀ s t, Rg R s → Rg R t → (B s = B t ↔ eqk (outF O) (stepN R) b k s t = true)
  top : ∀ s, Rg R s → B s < c
  onto : ∀ i < c, ∃ s, Rg R s ∧ B s = i
theorem Blk.of {κ : Type} [DecidableEq κ] {k : Nat} (σ : Int → κ) (h : ∀ s t, Rg R s → Rg R t → (σ s = σ t ↔ eqk (outF O) (stepN R) b k s t = true)) :
    Blk b R O k (fun s => num (distinct ((states R).map σ)) (σ s)) (distinct ((states R).map σ)).length := by
  have mem : ∀ s, Rg R s → σ s ∈ distinct ((states R).map σ) := fun s hs => distinct_mem.mpr (List.mem_map_of_mem (mem_states.mpr hs))
  refine ⟨fun s t hs ht => ?_, fun s hs => num_lt (mem s hs), fun i hi => ?_⟩
  · rw [← h s t hs ht]
    exact ⟨num_inj (mem s hs) (mem t ht), fun e => by rw [e]⟩
  · have hm := List.getElem_mem hi
    obtain ⟨s, hs, e⟩ := List.mem_map.mp (distinct_mem.mp hm)
    refine ⟨s, mem_states.mp hs, ?_⟩
    show num _ (σ s) = i
    rw [e]
    unfold num
    exact (distinct_nodup _).idxOf_getElem i hi
theorem Blk.zero : Blk b R O 0 (fun s => num (distinct ((states R).map (outF O))) (outF O s)) (distinct ((states R).map (outF O))).length := Blk.of (outF O) fun s t _ _ => by
  show _ ↔ (outF O s == outF O t) = true
  rw [beq_iff_eq]
/-- what is looked at in the next turn -/
def sightN (b : Nat) (R : List (List Int)) (B : Int → Nat) (s : Int) : Nat × List Nat := (B s, (List.range b).map fun j => B (stepN R s j))
theorem Blk.succ (h : Ok b R O) {k : Nat} {B : Int → Nat} {c : Nat} (hB : Blk b R O k B c) : Blk b R O (k + 1) (fun s => num (distinct ((states R).map (sightN b R B))) (sightN b R B s)) (distinct ((states R).map (sightN b R B))).length := Blk.of (sightN b R B) fun s t hs ht => by
  rw [eqk_succ, ← hB.kind s t hs ht]
  unfold sightN
  rw [Prod.mk.injEq]
  refine and_congr Iff.rfl ⟨fun e j hj => ?_, fun e => ?_⟩
  · rw [← hB.kind _ _ (h.step hs hj) (h.step ht hj)]
    have := congrArg (fun l : List Nat => l[j]?) e
    simpa [hj] using this
  · refine List.map_congr_left fun j hj => ?_
    rw [List.mem_range] at hj
    exact (hB.kind _ _ (h.step hs hj) (h.step ht hj)).mpr (e j hj)
theorem Blk.cnt {k : Nat} {B : Int → Nat} {c : Nat} (hB : Blk b R O k B c) : c = PM.cnt (outF O) (stepN R) b (states R) k := by
  have e1 : (distinct ((states R).map B)).length = PM.cnt (outF O) (stepN R) b (states R) k := distinct_len B (states R) fun s hs t ht => by
    have := hB.kind s t (mem_states.mp hs) (mem_states.mp ht)
    by_cases q : B s = B t
    · rw [decide_eq_true q]; exact this.mp q
    · rw [decide_eq_false q]
      cases e : eqk (outF O) (stepN R) b k s t with
      | false => rfl
      | true => exact (q (this.mpr e)).elim
  rw [← e1]
  have h1 := nodup_len (l := List.range c) (m := distinct ((states R).map B)) List.nodup_range fun i hi => by
    obtain ⟨s, hs, e⟩ := hB.onto i (List.mem_range.mp hi)
    exact distinct_mem.mpr (List.mem_map.mpr ⟨s, mem_states.mpr hs, e⟩)
  have h2 := nodup_len (l := distinct ((states R).map B)) (m := List.range c) (distinct_nodup _) fun i hi => by
    obtain ⟨s, hs, e⟩ := List.mem_map.mp (distinct_mem.mp hi)
    rw [← e]
    exact List.mem_range.mpr (hB.top s (mem_states.mp hs))
  rw [List.length_range] at h1 h2
  omega
theorem Blk.pos (h : Ok b R O) {k : Nat} {B : Int → Nat} {c : Nat} (hB : Blk b R O k B c) : 0 < c ∧ c ≤ R.length := by
  have := hB.top 0 h.in0
  have e := hB.cnt
  have := cnt_le (acc := outF O) (δ := stepN R) (W := b) (states R) k
  rw [states_len] at this
  omega
theorem states_closed (h : Ok b R O) : ∀ s ∈ states R, ∀ j, j < b → stepN R s j ∈ states R := fun s hs j hj => mem_states.mpr (h.step (mem_states.mp hs) hj)
/-- numbers by kinds -/
def Fin (b : Nat) (R : List (List Int)) (O : List Int) (B : Int → Nat) : Prop := ∀ s t, Rg R s → Rg R t → (B s = B t ↔ Alike (outF O) (stepN R) b s t)
theorem Blk.fin_all (h : Ok b R O) {B : Int → Nat} {c : Nat} (hB : Blk b R O R.length B c) : Fin b R O B := fun s t hs ht => by
  rw [hB.kind s t hs ht]
  refine ⟨fun e m => eqk_all (states_closed h) (mem_states.mpr hs) (mem_states.mpr ht) (by rw [states_len]; exact e) m, fun e => e _⟩
theorem Blk.fin_stop (h : Ok b R O) {k : Nat} {B B' : Int → Nat} {c c' : Nat} (hB : Blk b R O k B c) (hB' : Blk b R O (k + 1) B' c') (hc : c' ≤ c) : Fin b R O B' := fun s t hs ht => by
  rw [hB'.kind s t hs ht]
  refine ⟨fun e m => ?_, fun e => e _⟩
  have st := eqk_stable (states_closed h) (k := k) (by rw [← hB.cnt, ← hB'.cnt]; exact hc) m s t (mem_states.mpr hs) (mem_states.mpr ht) (eqk_succ.mp e).1
  exact eqk_down (by omega) st
/-! leaders -/
abbrev FoldS (b : Nat) (R : List (List Int)) (O : List Int) (L : List Int) (f : Int → Nat) (m : Nat) (δ' : Nat → Nat → Nat) (a' : Nat → Int) : Prop := Fold (outF O) (stepN R) b 0 L f m δ' a'
variable {Q : List Int} {f : Int → Nat} {m : Nat} {δ' : Nat → Nat → Nat} {a' : Nat → Int} {B : Int → Nat}
theorem foldS_in (h : Ok b R O) (F : FoldS b R O Q f m δ' a') {s : Int} (hs : s ∈ Q) : Rg R s := by
  obtain ⟨ks, h1, h2⟩ := reach_word F.ord s hs
  rw [← h2]
  exact h.word ks 0 h1 h.in0
theorem foldS_ex (h : Ok b R O) : ∃ Q f m δ' a', FoldS b R O Q f m δ' a' := by
  obtain ⟨Q, hQ, _⟩ := bfs_ex (row := rowOf (stepN R) b) (s0 := 0) (S := states R) (mem_states.mpr h.in0) fun s hs x hx => by
    obtain ⟨j, hj, rfl⟩ := mem_rowOf.mp hx
    exact states_closed h s hs j hj
  obtain ⟨f, m, δ', a', F⟩ := fold_ex (outF O) (stepN R) b 0 Q hQ
  exact ⟨Q, f, m, δ', a', F⟩
theorem foldS_m (h : Ok b R O) (F : FoldS b R O Q f m δ' a') : 0 < m ∧ m ≤ R.length := by
  have h1 := F.lt F.ord.start
  refine ⟨by omega, ?_⟩
  have := nodup_len (l := List.range m) (m := (states R).map f) List.nodup_range fun i hi => by
    obtain ⟨s, hs, e⟩ := F.onto (List.mem_range.mp hi)
    exact List.mem_map.mpr ⟨s, mem_states.mpr (foldS_in h F hs), e⟩
  rw [List.length_range, List.length_map, states_len] at this
  exact this
theorem foldS_lt (F : FoldS b R O Q f m δ' a') {i j : Nat} (hi : i < m) (hj : j < b) : δ' i j < m := by
  have := F.bfs.closed (List.mem_range.mpr hi) (mem_rowOf.mpr ⟨j, hj, rfl⟩)
  exact List.mem_range.mp this
theorem fin_f (h : Ok b R O) (F : FoldS b R O Q f m δ' a') (hB : Fin b R O B) {s t : Int} (hs : s ∈ Q) (ht : t ∈ Q) : B s = B t ↔ f s = f t := by
  rw [hB s t (foldS_in h F hs) (foldS_in h F ht), F.kind hs ht]
def addL (B : Int → Nat) (L : List Int) (x : Int) : List Int := if B x ∈ L.map B then L else L ++ [x]
/-- the leaders when k rows and j places of the next one are looked at -/
structure LOk (b : Nat) (Q : List Int) (f : Int → Nat) (m : Nat) (δ' : Nat → Nat → Nat) (k j : Nat) (L : List Int) : Prop where
  sub : ∀ x ∈ L, x ∈ Q
  eq : L.map f = ((List.range j).map (δ' k)).foldl addK (stage (rowOf δ' b) 0 (List.range m) k)
variable {k j : Nat} {L : List Int}
theorem LOk.start (F : FoldS b R O Q f m δ' a') : LOk b Q f m δ' 0 0 [0] := ⟨fun x hx => by rw [List.mem_singleton.mp hx]; exact F.ord.start, by rw [stage_zero]; show [f 0] = [0]; rw [F.start]⟩
theorem LOk.pre (F : FoldS b R O Q f m δ' a') (hL : LOk b Q f m δ' k j L) (hk : k < m) (hj : j ≤ b) : L.map f = List.range L.length ∧ L.length ≤ m := by
  have e0 : stage (rowOf δ' b) 0 (List.range m) (k + 1) = (rowOf δ' b k).foldl addK (stage (rowOf δ' b) 0 (List.range m) k) := stage_succ (by simp [hk])
  have e1 : rowOf δ' b k = (List.range j).map (δ' k) ++ (List.range' j (b - j)).map (δ' k) := by
    unfold rowOf
    rw [← List.map_append]
    congr 1
    have := List.range'_append (s := 0) (m := j) (n := b - j) (step := 1)
    simp at this
    rw [List.range_eq_range', List.range_eq_range', this, show j + (b - j) = b by omega]
  rw [e1, List.foldl_append, ← hL.eq] at e0
  obtain ⟨r1, h1⟩ := fold_pre ((List.range' j (b - j)).map (δ' k)) (L.map f)
  obtain ⟨r2, h2⟩ := F.bfs.stage_pre (k + 1)
  rw [e0, h1, List.append_assoc] at h2
  have hl := congrArg List.length h2
  rw [List.length_range, List.length_append, List.length_map] at hl
  refine ⟨?_, by omega⟩
  have := congrArg (List.take L.length) h2
  rw [List.take_range, show min L.length m = L.length by omega, List.take_left' (by simp)] at this
  exact this.symm
theorem LOk.at (F : FoldS b R O Q f m δ' a') (hL : LOk b Q f m δ' k j L) (hk : k < m) (hj : j ≤ b) {i : Nat} {x : Int} (hx : L[i]? = some x) : x ∈ Q ∧ f x = i := by
  have e := (hL.pre F hk hj).1
  have hi := (List.getElem?_eq_some_iff.mp hx).1
  have : (L.map f)[i]? = some i := by rw [e]; simp [hi]
  rw [List.getElem?_map, hx] at this
  exact ⟨hL.sub x (List.mem_of_getElem? hx), by simpa using this⟩
theorem LOk.step (h : Ok b R O) (F : FoldS b R O Q f m δ' a') (hB : Fin b R O B) (hL : LOk b Q f m δ' k j L) (hj : j < b) {x : Int} (hx : x ∈ Q) (hf : f x = k) : LOk b Q f m δ' k (j + 1) (addL B L (stepN R x j)) ∧ stepN R x j ∈ Q ∧ f (stepN R x j) = δ' k j := by
  have hy : stepN R x j ∈ Q := F.ord.clS hx hj
  have fy : f (stepN R x j) = δ' k j := by rw [F.step x hx j hj, hf]
  refine ⟨?_, hy, fy⟩
  have hin : B (stepN R x j) ∈ L.map B ↔ δ' k j ∈ L.map f := by
    rw [List.mem_map, List.mem_map]
    constructor
    · rintro ⟨z, hz, e⟩
      exact ⟨z, hz, by rw [← fy]; exact (fin_f h F hB (hL.sub z hz) hy).mp e⟩
    · rintro ⟨z, hz, e⟩
      exact ⟨z, hz, (fin_f h F hB (hL.sub z hz) hy).mpr (by rw [fy]; exact e)⟩
  have e2 : ((List.range (j + 1)).map (δ' k)).foldl addK (stage (rowOf δ' b) 0 (List.range m) k) = addK (L.map f) (δ' k j) := by
    rw [List.range_succ, List.map_append, List.foldl_append, ← hL.eq]
    rfl
  unfold addL
  by_cases q : B (stepN R x j) ∈ L.map B
  · rw [if_pos q]
    exact ⟨hL.sub, by rw [e2, addK_in (hin.mp q)]⟩
  · rw [if_neg q]
    refine ⟨fun z hz => ?_, ?_⟩
    · rcases List.mem_append.mp hz with hz | hz
      · exact hL.sub z hz
      · rw [List.mem_singleton.mp hz]; exact hy
    · rw [e2, addK_out (fun w => q (hin.mpr w)), List.map_append, List.map_singleton, fy]
theorem LOk.next (hL : LOk b Q f m δ' k b L) (hk : k < m) : LOk b Q f m δ' (k + 1) 0 L := by
  refine ⟨hL.sub, ?_⟩
  rw [hL.eq]
  show _ = stage (rowOf δ' b) 0 (List.range m) (k + 1)
  rw [stage_succ (x := k) (by simp [hk])]
  rfl
theorem LOk.len_le (F : FoldS b R O Q f m δ' a') (hL : LOk b Q f m δ' k 0 L) : L.length ≤ m := by
  have e := congrArg List.length hL.eq
  rw [List.length_map] at e
  have := F.bfs.len_le k
  rw [List.length_range] at this
  rw [e]
  exact this
theorem LOk.more (F : FoldS b R O Q f m δ' a') (hL : LOk b Q f m δ' k 0 L) (hk : k < m) : k < L.length := by
  have e := congrArg List.length hL.eq
  rw [List.length_map] at e
  have := F.bfs.stage_lt (k := k) (by simpa using hk)
  rw [e]
  exact this
theorem LOk.stop (F : FoldS b R O Q f m δ' a') (hL : LOk b Q f m δ' m 0 L) : L.map f = List.range m := by
  have e := hL.eq
  have := F.bfs.stage_all
  rw [List.length_range] at this
  rw [e]
  exact this
/-- what stands in the dict of places -/
def plE (B : Int → Nat) (n : Nat) (L : List Int) : List (Int × D) := (L.zipIdx n).map fun p => (((B p.1 : Nat) : Int), D.int ((p.2 : Nat) : Int))
theorem plE_lk : ∀ (L : List Int) (n : Nat) (k : Nat), lk (plE B n L) (k : Int) = if k ∈ L.map B then some (.int ((n + num (L.map B) k : Nat) : Int)) else none
  | [], n, k => by simp [plE, lk]
  | x :: L, n, k => by
    have ih := plE_lk L (n + 1) k
    unfold plE at ih ⊢
    rw [List.zipIdx_cons, List.map_cons, lk_cons, List.map_cons]
    by_cases e : B x = k
    · rw [if_pos (by show ((B x : Nat) : Int) = k; rw [e]), if_pos (by simp [e]), num_cons, if_pos e]
      simp
    · rw [if_neg (by show ¬ ((B x : Nat) : Int) = k; omega), ih]
      have e' : ¬ k = B x := fun q => e q.symm
      by_cases q : k ∈ L.map B
      · rw [if_pos q, if_pos (List.mem_cons_of_mem _ q), num_cons, if_neg e]
        congr 3
        omega
      · rw [if_neg q, if_neg (fun w => (List.mem_cons.mp w).elim e' q)]
theorem num_congr {α κ μ : Type} [DecidableEq κ] [DecidableEq μ] (key : α → κ) (g : α → μ) (y : α) : ∀ (L : List α), (∀ x ∈ L, (key x = key y ↔ g x = g y)) → num (L.map key) (key y) = num (L.map g) (g y)
  | [], _ => rfl
  | x :: L, h => by
    rw [List.map_cons, List.map_cons, num_cons, num_cons, num_congr key g y L fun z hz => h z (List.mem_cons_of_mem _ hz)]
    have := h x List.mem_cons_self
    by_cases q : key x = key y
    · rw [if_pos q, if_pos (this.mp q)]
    · rw [if_neg q, if_neg fun w => q (this.mpr w)]
theorem plE_snoc (L : List Int) (x : Int) : plE B 0 (L ++ [x]) = plE B 0 L ++ [(((B x : Nat) : Int), .int ((L.length : Nat) : Int))] := by
  unfold plE
  rw [List.zipIdx_append, List.map_append]
  simp
/-- the place of a state -/
theorem plE_get (h : Ok b R O) (F : FoldS b R O Q f m δ' a') (hB : Fin b R O B) (hL : LOk b Q f m δ' k j L) (hk : k < m) (hj : j ≤ b) {y : Int} (hy : y ∈ Q) :
    lk (plE B 0 L) ((B y : Nat) : Int) = if B y ∈ L.map B then some (.int ((f y : Nat) : Int)) else none := by
  rw [plE_lk]
  by_cases q : B y ∈ L.map B
  · rw [if_pos q, if_pos q, Nat.zero_add]
    have e := (hL.pre F hk hj).1
    have n1 := num_congr B f y L fun x hx => fin_f h F hB (hL.sub x hx) hy
    obtain ⟨z, hz, ez⟩ := List.mem_map.mp q
    have fz : f y ∈ L.map f := by
      rw [← (fin_f h F hB (hL.sub z hz) hy).mp ez]
      exact List.mem_map_of_mem hz
    rw [e] at n1 fz
    rw [n1, num_range (List.mem_range.mp fz)]
  · rw [if_neg q, if_neg q]
/-! the least one is in order -/
theorem tabS_len {b m : Nat} {δ : Nat → Nat → Nat} : (tabS b δ m).length = m := by simp [tabS]
theorem tabS_step {b m : Nat} {δ : Nat → Nat → Nat} {s j : Nat} (hs : s < m) (hj : j < b) : stepN (tabS b δ m) (s : Int) j = ((δ s j : Nat) : Int) := by
  unfold stepN rowN tabS
  simp [hs, getN, hj]
theorem outS_at {m : Nat} {a : Nat → Int} {s : Nat} (hs : s < m) : getN (outS a m) (s : Int) = a s := by
  unfold outS getN
  simp [hs]
theorem tabS_ok {b m : Nat} {δ : Nat → Nat → Nat} {a : Nat → Int} (hb : 2 ≤ b ∧ b ≤ 4) (hm : 0 < m ∧ m ≤ 2000) (hc : ∀ s j, s < m → j < b → δ s j < m) (ho : ∀ s, s < m → 0 ≤ a s ∧ a s ≤ 9) : Ok b (tabS b δ m) (outS a m) := by
  refine ⟨hb.1, hb.2, by simp [tabS, hm], by simp [tabS, hm], fun r hr => ?_, by simp [tabS, outS], fun x hx => ?_⟩
  · obtain ⟨s, hs, rfl⟩ := List.mem_map.mp hr
    refine ⟨by simp, fun x hx => ?_⟩
    obtain ⟨j, hj, rfl⟩ := List.mem_map.mp hx
    have := hc s j (List.mem_range.mp hs) (List.mem_range.mp hj)
    simp only [Rg, tabS, List.length_map, List.length_range]
    omega
  · obtain ⟨s, hs, rfl⟩ := List.mem_map.mp hx
    exact ho s (List.mem_range.mp hs)
theorem least_ok (h : Ok b R O) (F : FoldS b R O Q f m δ' a') : Ok b (tabS b δ' m) (outS a' m) := by
  have hm := foldS_m h F
  refine tabS_ok ⟨h.b2, h.b4⟩ ⟨hm.1, by have := h.top; omega⟩ (fun s j hs hj => foldS_lt F hs hj) fun s hs => ?_
  obtain ⟨x, hx, rfl⟩ := F.onto hs
  have := h.outR (foldS_in h F hx)
  rw [← F.acc x hx]
  exact this
/-- a word leads to the same output -/
theorem least_word (h : Ok b R O) (F : FoldS b R O Q f m δ' a') : ∀ (ks : List Nat) (s : Int), s ∈ Q → (∀ k ∈ ks, k < b) → ks.foldl (stepN (tabS b δ' m)) ((f s : Nat) : Int) = ((f (ks.foldl (stepN R) s) : Nat) : Int) ∧ ks.foldl (stepN R) s ∈ Q
  | [], s, hs, _ => ⟨rfl, hs⟩
  | k :: ks, s, hs, hk => by
    have hb := hk k List.mem_cons_self
    rw [List.foldl_cons, List.foldl_cons, tabS_step (F.lt hs) hb, ← F.step s hs k hb]
    exact least_word h F ks _ (F.ord.clS hs hb) fun j hj => hk j (List.mem_cons_of_mem _ hj)
theorem least_out (h : Ok b R O) (F : FoldS b R O Q f m δ' a') (ks : List Nat) (hk : ∀ k ∈ ks, k < b) : getN (outS a' m) (ks.foldl (stepN (tabS b δ' m)) 0) = getN O (ks.foldl (stepN R) 0) := by
  obtain ⟨h1, h2⟩ := least_word h F ks 0 F.ord.start hk
  rw [F.start] at h1
  have h1 : ks.foldl (stepN (tabS b δ' m)) 0 = _ := h1
  rw [h1, outS_at (F.lt h2), ← F.acc _ h2]
/-- zeros in front do not matter -/
theorem least_quiet (h : Ok b R O) (F : FoldS b R O Q f m δ' a') (hq : Quiet b R O) : Quiet b (tabS b δ' m) (outS a' m) := fun u hu => by
  have q := hq u hu
  unfold diffW diffP at q ⊢
  rw [fold2] at q ⊢
  have b0 : 0 < b := by have := h.b2; omega
  have e1 := least_out h F u hu
  have e2 := least_out h F (0 :: u) (fun k hk => by rcases List.mem_cons.mp hk with rfl | hk; exact b0; exact hu k hk)
  rw [List.foldl_cons, List.foldl_cons] at e2
  simp only at q ⊢
  rw [e1, e2]
  exact q
end
end SQ

/-! PS3: dicts that number things; sights as keys. Plain Lean. -/
namespace SQ
open PySem L2 FL PM
def keyE {α κ : Type} (key : α → κ) (n : Nat) (ks : List α) : List (κ × D) := (ks.zipIdx n).map fun p => (key p.1, D.int ((p.2 : Nat) : Int))
section
variable {α κ : Type} [DecidableEq α] [DecidableEq κ] {key : α → κ}
theorem keyE_lk (hk : ∀ a b, key a = key b → a = b) : ∀ (ks : List α) (n : Nat) (k : α), lk (keyE key n ks) (key k) = if k ∈ ks then some (.int ((n + num ks k : Nat) : Int)) else none
  | [], n, k => by simp [keyE, lk]
  | x :: ks, n, k => by
    have ih := keyE_lk hk ks (n + 1) k
    unfold keyE at ih ⊢
    rw [List.zipIdx_cons, List.map_cons, lk_cons]
    by_cases e : x = k
    · rw [if_pos (by rw [e]), if_pos (by simp [e]), num_cons, if_pos e]
      simp
    · rw [if_neg (fun q => e (hk _ _ q)), ih]
      have e' : ¬ k = x := fun q => e q.symm
      by_cases q : k ∈ ks
      · rw [if_pos q, if_pos (List.mem_cons_of_mem _ q), num_cons, if_neg e]
        congr 3
        omega
      · rw [if_neg q, if_neg (fun w => (List.mem_cons.mp w).elim e' q)]
theorem keyE_snoc (ks : List α) (x : α) : keyE key 0 (ks ++ [x]) = keyE key 0 ks ++ [(key x, .int ((ks.length : Nat) : Int))] := by
  unfold keyE
  rw [List.zipIdx_append, List.map_append]
  simp
theorem keyE_len (ks : List α) (n : Nat) : (keyE key n ks).length = ks.length := by simp [keyE]
/-- numbers as things come are those of all things -/
theorem num_take {xs : List α} {n : Nat} {x : α} (h : xs[n]? = some x) : addK ((xs.take n).foldl addK []) x = (xs.take (n + 1)).foldl addK [] ∧ num ((xs.take (n + 1)).foldl addK []) x = num (distinct xs) x := by
  have e : xs.take (n + 1) = xs.take n ++ [x] := by rw [List.take_add_one, h]; rfl
  have e1 : (xs.take (n + 1)).foldl addK [] = addK ((xs.take n).foldl addK []) x := by rw [e, List.foldl_append]; rfl
  refine ⟨e1.symm, ?_⟩
  obtain ⟨r, hr⟩ := fold_pre (xs.drop (n + 1)) ((xs.take (n + 1)).foldl addK [])
  have : distinct xs = (xs.take (n + 1)).foldl addK [] ++ r := by
    unfold distinct
    conv => lhs; rw [← List.take_append_drop (n + 1) xs]
    rw [List.foldl_append, hr]
  rw [this, num_pre (by rw [e1]; exact addK_mem _ _)]
theorem fold_len : ∀ (xs ks : List α), (xs.foldl addK ks).length ≤ ks.length + xs.length
  | [], ks => by simp
  | x :: xs, ks => by
    have := fold_len xs (addK ks x)
    have l : (addK ks x).length ≤ ks.length + 1 := by unfold addK; split <;> simp
    simp only [List.foldl_cons, List.length_cons]
    omega
end
/-- numbers of things in the order in which they come -/
def numsD {α : Type} [DecidableEq α] (xs : List α) : List D := xs.map fun x => D.int ((num (distinct xs) x : Nat) : Int)
/-- what is seen from a state -/
abbrev sD (p : Nat × List Nat) : D := .tup [.int (p.1 : Nat), eNt p.2]
def kS (p : Nat × List Nat) : NestedKey := .tup [.num (p.1 : Nat), .tup (p.2.map fun d : Nat => .num (d : Int))]
theorem numL_inj : ∀ {a b : List Nat}, (a.map fun d : Nat => NestedKey.num (d : Int)) = b.map (fun d : Nat => NestedKey.num (d : Int)) → a = b
  | [], [], _ => rfl
  | [], _ :: _, h => by cases h
  | _ :: _, [], h => by cases h
  | x :: a, y :: b, h => by
    rw [List.map_cons, List.map_cons] at h
    injection h with h1 h2
    injection h1 with h1
    rw [numL_inj h2, show x = y by omega]
theorem kS_inj (a b : Nat × List Nat) (h : kS a = kS b) : a = b := by
  unfold kS at h
  injection h with h
  injection h with h1 h2
  injection h1 with h1
  injection h2 with h2 _
  injection h2 with h2
  exact Prod.ext (by omega) (numL_inj h2)
theorem nks_nats (l : List Nat) : nks (l.map fun d : Nat => D.int (d : Int)) = some (l.map fun d : Nat => .num (d : Int)) := by
  induction l with
  | nil => rfl
  | cons a r ih => simp [nks, nk, ih]
theorem nkT_sD (p : Nat × List Nat) : nkT (sD p) = some (kS p) := by
  have d0 : ∀ l : List Nat, NestedKey.depthAll (l.map fun d : Nat => .num (d : Int)) = 0 := fun l => by
    induction l with
    | nil => rfl
    | cons a r ih => simp [NestedKey.depthAll, NestedKey.depth, ih]
  show ((nks [.int (p.1 : Nat), eNt p.2]).bind fun ks => if (NestedKey.tup ks).depth ≤ 8 then some (NestedKey.tup ks) else none) = _
  have : nks [.int (p.1 : Nat), eNt p.2] = some [.num (p.1 : Nat), .tup (p.2.map fun d : Nat => .num (d : Int))] := by
    simp [nks, nk, nks_nats]
  rw [this, Option.bind_some, if_pos]
  · rfl
  · simp [NestedKey.depth, NestedKey.depthAll, d0]
theorem nlk_sD (M : List (NestedKey × D)) (x : Nat × List Nat) : nlk (.dN M) (sD x) = some (lk M (kS x)) := by
  show Option.map _ (nkT (sD x)) = _
  rw [nkT_sD]
  rfl
section
variable {b : Nat} {R : List (List Int)} {O : List Int}
/-- numbers of states as a list -/
def blD (R : List (List Int)) (B : Int → Nat) : List D := (states R).map fun s => D.int ((B s : Nat) : Int)
theorem bl_get {B : Int → Nat} {s : Int} (hs : Rg R s) : FL.getD (.lst (blD R B)) (.int s) = .ok (.int ((B s : Nat) : Int)) := by
  refine getD_map (enc := fun s => D.int ((B s : Nat) : Int)) (ds := states R) hs.1 ?_
  have h : s.toNat < R.length := by omega
  unfold states
  rw [List.getElem?_map, List.getElem?_range h]
  show some ((s.toNat : Nat) : Int) = some s
  congr 1
  omega
theorem nums_bl {α : Type} [DecidableEq α] (σ : Int → α) : numsD ((states R).map σ) = blD R (fun s => num (distinct ((states R).map σ)) (σ s)) := by
  unfold numsD blD
  rw [List.map_map]
  rfl
theorem outs_states (h : Ok b R O) : O = (states R).map (outF O) := by
  refine List.ext_getElem? fun n => ?_
  unfold states
  rw [List.map_map, List.getElem?_map]
  by_cases q : n < R.length
  · rw [List.getElem?_range q, List.getElem?_eq_getElem (by rw [h.olen]; exact q)]
    simp [getN, h.olen, q]
  · rw [List.getElem?_eq_none (by rw [h.olen]; omega), List.getElem?_eq_none (by simp; omega)]
    rfl
theorem bl_max (h : Ok b R O) {k : Nat} {B : Int → Nat} {c : Nat} (hB : Blk b R O k B c) : maxD [.lst (blD R B)] = .ok (.int ((c : Nat) - 1 : Int)) := by
  have c0 := hB.pos h
  have e : blD R B = ((states R).map fun s => ((B s : Nat) : Int)).map D.int := by unfold blD; rw [List.map_map]; rfl
  have ne : ∃ a r, (states R).map (fun s => ((B s : Nat) : Int)) = a :: r := by
    have := h.pos
    have l : ((states R).map fun s => ((B s : Nat) : Int)).length = R.length := by simp [states]
    cases q : (states R).map (fun s => ((B s : Nat) : Int)) with
    | nil => rw [q] at l; simp at l; omega
    | cons a r => exact ⟨a, r, rfl⟩
  obtain ⟨a, r, q⟩ := ne
  have ge : ∀ x ∈ a :: r, x ≤ ((c : Nat) : Int) - 1 := fun x hx => by
    rw [← q] at hx
    obtain ⟨s, hs, rfl⟩ := List.mem_map.mp hx
    have := hB.top s (mem_states.mp hs)
    omega
  have mem : ((c : Nat) : Int) - 1 ∈ a :: r := by
    obtain ⟨s, hs, e⟩ := hB.onto (c - 1) (by omega)
    rw [← q]
    exact List.mem_map.mpr ⟨s, mem_states.mpr hs, by omega⟩
  have mx : maxL (a :: r) = ((c : Nat) : Int) - 1 := by
    have := ge _ (maxL_mem a r)
    have := maxL_ge a r _ mem
    omega
  unfold maxD
  rw [e, q]
  simp only [x_asInts]
  rw [mx]
theorem enumT : ∀ (l : List (List Int)) (n : Nat), enumL n (l.map eT) = (List.range l.length).map fun i : Nat => D.tup [.int ((n + i : Nat) : Int), eT ((l[i]?).getD [])]
  | [], n => rfl
  | x :: l, n => by
    rw [List.map_cons, enumL, enumT l (n + 1), List.length_cons, List.range_succ_eq_map, List.map_cons, List.map_map]
    congr 1
    refine List.map_congr_left fun i _ => ?_
    simp [Nat.add_assoc, Nat.add_comm 1 i]
theorem enum_rows (R : List (List Int)) : enumL 0 (R.map eT) = (states R).map fun s => D.tup [.int s, eT (rowN R s)] := by
  rw [enumT, states, List.map_map]
  refine List.map_congr_left fun i _ => ?_
  simp [rowN]
theorem row_range (h : Ok b R O) {s : Int} (hs : Rg R s) : rowN R s = (List.range b).map (stepN R s) := by
  refine List.ext_getElem (by simp [h.rlen hs]) fun i h1 h2 => ?_
  rw [List.getElem_map, List.getElem_range]
  unfold stepN getN
  simp [h1]
variable {Q : List Int} {f : Int → Nat} {m : Nat} {δ' : Nat → Nat → Nat} {a' : Nat → Int} {B : Int → Nat}
theorem row_step (h : Ok b R O) (F : FoldS b R O Q f m δ' a') (hB : Fin b R O B) {k j : Nat} {L : List Int} (hL : LOk b Q f m δ' k j L) (hk : k < m) (hj : j < b) {x : Int} (hx : x ∈ Q) (hf : f x = k) :
    lk (plE B 0 L) ((B (stepN R x j) : Nat) : Int) = (if B (stepN R x j) ∈ L.map B then some (.int ((δ' k j : Nat) : Int)) else none) ∧ lk (plE B 0 (addL B L (stepN R x j))) ((B (stepN R x j) : Nat) : Int) = some (.int ((δ' k j : Nat) : Int)) ∧
      (¬ B (stepN R x j) ∈ L.map B → dput (.dI (plE B 0 L)) (.int ((B (stepN R x j) : Nat) : Int)) (.int (L.length : Nat)) = .ok (.dI (plE B 0 (addL B L (stepN R x j))))) := by
  obtain ⟨n1, n2, n3⟩ := hL.step h F hB hj hx hf
  have g1 := plE_get h F hB hL hk (by omega) n2
  have g2 := plE_get h F hB n1 hk (by omega) n2
  rw [n3] at g1 g2
  have lm := (hL.pre F hk (by omega)).2
  have ml := (foldS_m h F).2
  have top := h.top
  refine ⟨g1, ?_, fun q => ?_⟩
  · rw [g2, if_pos]
    unfold addL
    split
    · assumption
    · simp
  · have pa : addL B L (stepN R x j) = L ++ [stepN R x j] := if_neg q
    rw [if_neg q] at g1
    have a1 : ((plE B 0 L).any fun kv => decide (kv.1 = ((B (stepN R x j) : Nat) : Int))) = false := by rw [lk_any, g1]; rfl
    have ln : (plE B 0 L).length = L.length := by simp [plE]
    have p1 : putD (plE B 0 L) ((B (stepN R x j) : Nat) : Int) (.int (L.length : Nat)) = plE B 0 (L ++ [stepN R x j]) := by
      unfold putD
      rw [a1, if_neg Bool.false_ne_true, plE_snoc]
    rw [pa]
    show (if (plE B 0 L).length < sizeLine then Res.ok (D.dI (putD (plE B 0 L) ((B (stepN R x j) : Nat) : Int) (.int (L.length : Nat)))) else .stuck) = _
    rw [if_pos (by rw [ln]; exact sizeLt (by omega)), p1]
end
abbrev eLi (l : List Int) : D := .lst (l.map D.int)
end SQ

/-! PS4: first numbers at which sequences differ; the same members, the same least sequence. Plain Lean. -/
namespace SQ
open PySem L2 FL PM
def memN (b : Nat) (R : List (List Int)) (O : List Int) (n : Nat) : Int := getN O ((dg b n).foldl (stepN R) 0)
def valW (b : Nat) (w : List Nat) : Nat := w.foldl (fun n d => n * b + d) 0
theorem valW_snoc (b : Nat) (w : List Nat) (d : Nat) : valW b (w ++ [d]) = valW b w * b + d := by
  unfold valW
  rw [List.foldl_append]
  rfl
theorem foldl_pos {b : Nat} (hb : 0 < b) : ∀ (w : List Nat) (n : Nat), 0 < n → 0 < w.foldl (fun n d => n * b + d) n
  | [], n, h => h
  | d :: w, n, h => foldl_pos hb w _ (by show 0 < n * b + d; have := Nat.mul_pos h hb; omega)
theorem valW_pos {b : Nat} (hb : 0 < b) {d : Nat} {w : List Nat} (hd : 0 < d) : 0 < valW b (d :: w) := foldl_pos hb w _ (by show 0 < 0 * b + d; omega)
/-- digits without zeros in front are those of their value -/
theorem dg_valW {b : Nat} (hb : 2 ≤ b) (w : List Nat) : (∀ d ∈ w, d < b) → (∀ d r, w = d :: r → 0 < d) → dg b (valW b w) = w := by
  refine snoc_ind (P := fun w => (∀ d ∈ w, d < b) → (∀ d r, w = d :: r → 0 < d) → dg b (valW b w) = w) (fun _ _ => dg_zero b) (fun v d ih h1 h2 => ?_) w
  have hd : d < b := h1 d (by simp)
  rw [valW_snoc]
  cases v with
  | nil =>
    have := h2 d [] rfl
    show dg b (0 * b + d) = [d]
    rw [dg_snoc hb hd (by omega), dg_zero]
    rfl
  | cons e r =>
    have he := h2 e (r ++ [d]) rfl
    have p := valW_pos (b := b) (by omega) (w := r) he
    have p2 : 0 < valW b (e :: r) * b := Nat.mul_pos p (by omega)
    rw [dg_snoc hb hd (by omega), ih (fun x hx => h1 x (List.mem_append_left _ hx)) fun x s hx => h2 x (s ++ [d]) (by rw [hx]; rfl)]
theorem dg_head {b : Nat} (hb : 2 ≤ b) (n : Nat) : ∀ d r, dg b n = d :: r → 0 < d := by
  induction n using Nat.strongRecOn with
  | _ n ih =>
    intro d r h
    by_cases q : n = 0
    · rw [q, dg_zero] at h; cases h
    · rw [dg_pos hb (by omega)] at h
      cases e : dg b (n / b) with
      | nil =>
        rw [e] at h
        have hn : n / b = 0 := by
          apply Classical.byContradiction
          intro w
          have := dg_step hb (Nat.pos_of_ne_zero w)
          rw [e] at this
          simp at this
        have : n < b := by
          rcases Nat.lt_or_ge n b with w | w
          · exact w
          · have := Nat.div_pos w (by omega); omega
        rw [Nat.mod_eq_of_lt this] at h
        cases h
        omega
      | cons x s =>
        rw [e] at h
        cases h
        exact ih _ (Nat.div_lt_self (by omega) hb) d s e
theorem valW_dg {b : Nat} (hb : 2 ≤ b) (n : Nat) : valW b (dg b n) = n := by
  induction n using Nat.strongRecOn with
  | _ n ih =>
    by_cases h : n = 0
    · rw [h, dg_zero]; rfl
    · rw [dg_pos hb (by omega), valW_snoc, ih _ (Nat.div_lt_self (by omega) hb), Nat.mul_comm]
      exact Nat.div_add_mod n b
theorem code_dg {b : Nat} (hb : 2 ≤ b) : ∀ (N n : Nat), n < N → codeW b (dg b n) < codeW b (dg b N) := by
  intro N
  induction N using Nat.strongRecOn with
  | _ N ih =>
    intro n hn
    have hN : 0 < N := by omega
    rw [dg_pos hb hN]
    by_cases h0 : n = 0
    · rw [h0, dg_zero, codeW_snoc]
      simp [codeW]
    · rw [dg_pos hb (show 0 < n by omega)]
      have le : n / b ≤ N / b := Nat.div_le_div_right (by omega)
      rcases Nat.lt_or_ge (n / b) (N / b) with w | w
      · exact code_lt (ih _ (Nat.div_lt_self hN hb) _ w) (Nat.mod_lt _ (by omega))
      · have e : n / b = N / b := by omega
        have h1 := Nat.div_add_mod n b
        have h2 := Nat.div_add_mod N b
        rw [e] at h1 ⊢
        rw [codeW_snoc, codeW_snoc]
        omega
theorem code_lt0 {b : Nat} (hb : 0 < b) : ∀ (w : List Nat) (c c' : Nat), c < c' → w.foldl (fun c j => c * b + j + 1) c < w.foldl (fun c j => c * b + j + 1) c'
  | [], c, c', h => h
  | j :: w, c, c', h => code_lt0 hb w _ _ (by show c * b + j + 1 < c' * b + j + 1; have := Nat.mul_lt_mul_of_pos_right h hb; omega)
section
variable {b : Nat} {R1 R2 : List (List Int)} {O1 O2 : List Int}
theorem diff_out (u : List Nat) : diffW R1 R2 O1 O2 0 0 u = !decide (getN O1 (u.foldl (stepN R1) 0) = getN O2 (u.foldl (stepN R2) 0)) := by
  unfold diffW diffP
  rw [fold2]
theorem quiet_out {R : List (List Int)} {O : List Int} (q : Quiet b R O) {u : List Nat} (hu : ∀ j ∈ u, j < b) : getN O (u.foldl (stepN R) (stepN R 0 0)) = getN O (u.foldl (stepN R) 0) := by
  have := q u hu
  unfold diffW diffP at this
  rw [fold2] at this
  have e : getN O (u.foldl (stepN R) 0) = getN O (u.foldl (stepN R) (stepN R 0 0)) := by simpa using this
  exact e.symm
theorem first_num (hb : 2 ≤ b) (q1 : Quiet b R1 O1) (q2 : Quiet b R2 O2) {w : List Nat} (h : IsFirst b (diffW R1 R2 O1 O2 0 0) w) :
    dg b (valW b w) = w ∧ memN b R1 O1 (valW b w) ≠ memN b R2 O2 (valW b w) ∧ ∀ n < valW b w, memN b R1 O1 n = memN b R2 O2 n := by
  obtain ⟨h1, h2, h3⟩ := h
  have e : dg b (valW b w) = w := dg_valW hb w h1 fun d r hw => by
    apply Classical.byContradiction
    intro hd
    have d0 : d = 0 := by omega
    subst d0
    subst hw
    have hr : ∀ j ∈ r, j < b := fun j hj => h1 j (List.mem_cons_of_mem _ hj)
    have p := h3 r hr (by
      rw [diff_out] at h2 ⊢
      rw [List.foldl_cons, List.foldl_cons, quiet_out q1 hr, quiet_out q2 hr] at h2
      exact h2)
    have := code_lt0 (b := b) (by omega) r 0 (0 * b + 0 + 1) (by omega)
    unfold codeW at p
    rw [List.foldl_cons] at p
    omega
  refine ⟨e, ?_, fun n hn => ?_⟩
  · unfold memN
    rw [e]
    rw [diff_out] at h2
    simpa using h2
  · apply Classical.byContradiction
    intro q
    have := h3 (dg b n) (dg_lt hb n) (by
      rw [diff_out]
      show (!decide (memN b R1 O1 n = memN b R2 O2 n)) = true
      rw [decide_eq_false q]
      rfl)
    have c := code_dg hb _ _ hn
    rw [e] at c
    omega
theorem none_num (hb : 2 ≤ b) (h : ∀ u : List Nat, (∀ j ∈ u, j < b) → diffW R1 R2 O1 O2 0 0 u = false) (n : Nat) : memN b R1 O1 n = memN b R2 O2 n := by
  have := h (dg b n) (dg_lt hb n)
  rw [diff_out] at this
  show getN O1 _ = getN O2 _
  simpa using this
theorem FirstIs.congr {W : Nat} {P P' : List Nat → Bool} {o : Option (List Nat)} (hp : ∀ u : List Nat, (∀ j ∈ u, j < W) → P u = P' u) (h : FirstIs W P o) : FirstIs W P' o := by
  cases o with
  | some w => exact IsFirst.congr hp h
  | none => exact fun u hu => by rw [← hp u hu]; exact h u hu
variable {Q1 Q2 : List Int} {f1 f2 : Int → Nat} {m1 m2 : Nat} {d1 d2 : Nat → Nat → Nat} {a1 a2 : Nat → Int}
/-- the same members, the same least sequence -/
theorem same_least (F1 : FoldS b R1 O1 Q1 f1 m1 d1 a1) (F2 : FoldS b R2 O2 Q2 f2 m2 d2 a2) (h : ∀ u : List Nat, (∀ j ∈ u, j < b) → diffW R1 R2 O1 O2 0 0 u = false) : tabS b d1 m1 = tabS b d2 m2 ∧ outS a1 m1 = outS a2 m2 := by
  obtain ⟨e, e2, e3⟩ := fold_same F1 F2 fun ks hk => by
    have := h ks hk
    rw [diff_out] at this
    simpa using this
  subst e
  refine ⟨?_, ?_⟩
  · unfold tabS
    refine List.map_congr_left fun s hs => List.map_congr_left fun j hj => ?_
    rw [e2 s (List.mem_range.mp hs) j (List.mem_range.mp hj)]
  · unfold outS
    exact List.map_congr_left fun s hs => e3 s (List.mem_range.mp hs)
/-- a map of states that keeps steps and outputs -/
theorem hom_same {S : Int → Prop} {g : Int → Int} (hS : ∀ s j, S s → j < b → S (stepN R2 s j) ∧ g (stepN R2 s j) = stepN R1 (g s) j) (hO : ∀ s, S s → getN O2 s = getN O1 (g s)) : ∀ (u : List Nat) (s : Int), S s → (∀ j ∈ u, j < b) → getN O2 (u.foldl (stepN R2) s) = getN O1 (u.foldl (stepN R1) (g s))
  | [], s, hs, _ => hO s hs
  | j :: u, s, hs, hu => by
    obtain ⟨h1, h2⟩ := hS s j hs (hu j List.mem_cons_self)
    rw [List.foldl_cons, List.foldl_cons, ← h2]
    exact hom_same hS hO u _ h1 fun k hk => hu k (List.mem_cons_of_mem _ hk)
end
end SQ

namespace K22
open PySem L2 FL PM SQ
/-! a law's draws -/
def dOk (ds : List Int) : Prop := ∀ d ∈ ds, 0 ≤ d ∧ d < 65521
theorem dOk_snoc {ds : List Int} {d : Int} (h : dOk ds) (h0 : 0 ≤ d ∧ d < 65521) : dOk (ds ++ [d]) := fun e he => by
  rcases List.mem_append.mp he with q | q
  · exact h e q
  · rw [List.mem_singleton.mp q]; exact h0
theorem x_absI (i : Int) : absD [.int i] = .ok (.int (if i < 0 then -i else i)) := rfl
theorem draws_w1 (x : List Int) (many sd c n : Int) (ds : List Int) (hd : dOk ds) (hl : ds.length ≤ 10000) :
    ∃ n' ds', w_law_draws_1 [.val (.scr x), .val (.int many), .own (.lst (ds.map D.int)), .val (.int sd), .val (.int c), .val (.int n), .no] = .nx [.val (.scr x), .val (.int many), .own (.lst (ds'.map D.int)), .val (.int sd), .val (.int c), .val (.int n'), .no] ∧ ds'.length ≤ ds.length + 60 ∧ dOk ds' := by
  obtain ⟨Γ', h1, h2⟩ := forK (i := 6) (enc := fun i : Nat => D.int (i : Int)) (body := sWipe [6] (sIf (nT (e2 gtD (eB 5) (eC (.int 0)))) (sSeq (sApp 2 (e2 modD (eN FL.intD (aCons (eB 5) aNil)) (eC (.int 1009)))) (sVal 5 (e2 fdivD (eB 5) (eC (.int 1009))))) sNx))
    (fun k Γ => ∃ n' ds', Γ = [.val (.scr x), .val (.int many), .own (.lst (List.map D.int ds')), .val (.int sd), .val (.int c), .val (.int n'), .no] ∧ ds'.length ≤ ds.length + k ∧ dOk ds') (List.range 60) 0 _
    (fun j y Γ hy hJ => by
      obtain ⟨rfl, hj⟩ := range_get hy
      obtain ⟨n', ds', rfl, h1, h2⟩ := hJ
      refine ⟨by simp, ?_⟩
      have sz := sizeLt (n := ds'.length) (by omega)
      by_cases q : 0 < n'
      · refine ⟨_, .inl (by simp [q, sz, x_fdiv]; rfl), n' / 1009, ds' ++ [n' % 1009], by simp, by simp; omega, dOk_snoc h2 (by omega)⟩
      · exact ⟨_, .inl (by simp [q]; rfl), n', ds', by simp, by omega, h2⟩)
    ⟨n, ds, rfl, by omega, hd⟩
  obtain ⟨n', ds', rfl, h3, h4⟩ := h2
  exact ⟨n', ds', for_of (iR1_nat 60 (by omega) (by simp)) h1, by simpa using h3, h4⟩
theorem draws_w2 (x : List Int) (many : Int) (hx : x.length ≤ 63) : ∃ sd ds, w_law_draws_2 [.val (.scr x), .val (.int many), .own (.lst []), .val (.int 7), .no, .no, .no] = .nx [.val (.scr x), .val (.int many), .own (.lst (ds.map D.int)), .val (.int sd), .no, .no, .no] ∧ ds.length ≤ 3780 ∧ dOk ds := by
  have pw : powD (.int 10) (.int 18) = .ok (.int 1000000000000000000) := rfl
  have cut : cutG x none (some 63) = x := by
    rw [show (63 : Int) = ((63 : Nat) : Int) from rfl, cut_to]
    exact List.take_of_length_le hx
  obtain ⟨Γ', h1, h2⟩ := forK (i := 4) (enc := D.int) (body := sWipe [4, 5, 6] (sSeq (sVal 5 (eN absD (aCons (eB 4) aNil))) (sSeq (sVal 3 (e2 modD (eN FL.intD (aCons (e2 addD (e2 addD (e2 mulD (eB 3) (eC (.int 48271))) (eB 5)) (eC (.int 11))) aNil)) (eC (.int 2147483647)))) (sWipe [5, 6] (sIf (nT (e2 geD (eB 5) (e2 powD (eC (.int 10)) (eC (.int 18))))) (sWipe [5, 6] w_law_draws_1) (sApp 2 (e2 modD (e2 fdivD (eN FL.intD (aCons (e2 addD (e2 mulD (eB 3) (eC (.int 16807))) (eC (.int 5))) aNil)) (eC (.int 3))) (eC (.int 65521)))))))))
    (fun k Γ => ∃ sd ds, Γ = [.val (.scr x), .val (.int many), .own (.lst (List.map D.int ds)), .val (.int sd), .no, .no, .no] ∧ ds.length ≤ 60 * k ∧ dOk ds) x 0 _
    (fun j y Γ hy hJ => by
      obtain ⟨sd, ds, rfl, h1, h2⟩ := hJ
      have hj : j < x.length := (List.getElem?_eq_some_iff.mp hy).1
      refine ⟨by simp, ?_⟩
      have sz := sizeLt (n := ds.length) (by omega)
      obtain ⟨n, hn⟩ : ∃ n, (if y < 0 then -y else y) = n := ⟨_, rfl⟩
      have ab := x_absI y
      rw [hn] at ab
      obtain ⟨s2, hs2⟩ : ∃ s2, (sd * 48271 + n + 11) % 2147483647 = s2 := ⟨_, rfl⟩
      by_cases q : 1000000000000000000 ≤ n
      · obtain ⟨n', ds', w1, w2, w3⟩ := draws_w1 x many s2 y n ds h2 (by omega)
        refine ⟨_, .inl (by simp [ab, pw, q, x_mulR, hs2, w1]; rfl), s2, ds', by simp, by omega, w3⟩
      · refine ⟨_, .inl (by simp [ab, pw, q, x_mulR, x_fdiv, hs2, sz]; rfl), s2, ds ++ [(s2 * 16807 + 5) / 3 % 65521], by simp, by simp; omega, dOk_snoc h2 (by omega)⟩)
    ⟨7, [], rfl, by simp, fun d hd => nomatch hd⟩
  obtain ⟨sd, ds, rfl, h3, h4⟩ := h2
  refine ⟨sd, ds, for_of (by simp [cut]) h1, by omega, h4⟩
theorem draws_w3 (x : List Int) (many : Nat) (sd : Int) (ds : List Int) (hd : dOk ds) (hl : ds.length ≤ 10000) (hm : many ≤ 1000) :
    ∃ sd' ds', w_law_draws_3 [.val (.scr x), .val (.int many), .own (.lst (ds.map D.int)), .val (.int sd), .no, .no, .no] = .nx [.val (.scr x), .val (.int many), .own (.lst (ds'.map D.int)), .val (.int sd'), .no, .no, .no] ∧ many ≤ ds'.length ∧ dOk ds' := by
  obtain ⟨Γ', h1, h2⟩ := forK (i := 6) (enc := fun i : Nat => D.int (i : Int)) (body := sWipe [6] (sIf (nT (e2 ltD (eN lenD (aCons (eB 2) aNil)) (eB 1))) (sSeq (sVal 3 (e2 modD (eN FL.intD (aCons (e2 addD (e2 addD (e2 mulD (eB 3) (eC (.int 69621))) (eB 6)) (eC (.int 1))) aNil)) (eC (.int 2147483647)))) (sApp 2 (e2 modD (e2 fdivD (eN FL.intD (aCons (eB 3) aNil)) (eC (.int 7))) (eC (.int 65521))))) sNx))
    (fun k Γ => ∃ sd' ds', Γ = [.val (.scr x), .val (.int many), .own (.lst (List.map D.int ds')), .val (.int sd'), .no, .no, .no] ∧ (many ≤ ds'.length ∨ k ≤ ds'.length) ∧ ds'.length ≤ 10000 + k ∧ dOk ds') (List.range many) 0 _
    (fun j y Γ hy hJ => by
      obtain ⟨rfl, hj⟩ := range_get hy
      obtain ⟨sd', ds', rfl, h1, h2, h3⟩ := hJ
      refine ⟨by simp, ?_⟩
      have sz := sizeLt (n := ds'.length) (by omega)
      by_cases q : ds'.length < many
      · refine ⟨_, .inl (by simp [q, sz, x_fdiv, x_mulR]; rfl), (sd' * 69621 + (y : Int) + 1) % 2147483647, ds' ++ [(sd' * 69621 + (y : Int) + 1) % 2147483647 / 7 % 65521], by simp, by simp; omega, by simp; omega, dOk_snoc h3 (by omega)⟩
      · exact ⟨_, .inl (by simp [q]; rfl), sd', ds', by simp, by omega, by omega, h3⟩)
    ⟨sd, ds, rfl, by omega, by omega, hd⟩
  obtain ⟨sd', ds', rfl, h3, h4, h5⟩ := h2
  refine ⟨sd', ds', for_of (iR1_nat many (by omega) (by simp)) h1, ?_, h5⟩
  simp at h3
  omega
theorem law_draws_eq (x : List Int) (many : Nat) (hx : x.length ≤ 63) (hm : many ≤ 1000) : ∃ ds : List Int, m_law_draws [.scr x, .int many] = .ok (.lst (ds.map D.int)) ∧ ds.length = many ∧ dOk ds := by
  obtain ⟨sd, ds, w2, l2, o2⟩ := draws_w2 x many hx
  obtain ⟨sd', ds', w3, l3, o3⟩ := draws_w3 x many sd ds o2 (by omega) hm
  refine ⟨ds'.take many, ?_, by rw [List.length_take]; omega, fun d hd => o3 d (List.mem_of_mem_take hd)⟩
  have cut : cutG (ds'.map D.int) none (some (many : Int)) = (ds'.take many).map D.int := by rw [cut_to, List.map_take]
  simp [m_law_draws, g_law_draws, w2, w3, cut]
end K22

namespace K22
open PySem L2 FL PM SQ
/-! a drawn sequence -/
def tabD (b : Nat) (δ : Nat → Nat → Nat) (m : Nat) : List (List Int) := (List.range m).map fun s => (List.range b).map fun j => ((δ s j : Nat) : Int)
def outD (o : Nat → Nat) (m : Nat) : List Int := (List.range m).map fun s => ((o s : Nat) : Int)
theorem tabD_ok {b m : Nat} {δ : Nat → Nat → Nat} {o : Nat → Nat} (hb : 2 ≤ b ∧ b ≤ 4) (hm : 0 < m ∧ m ≤ 2000) (hc : ∀ s j, s < m → j < b → δ s j < m) (ho : ∀ s, s < m → o s ≤ 9) : Ok b (tabD b δ m) (outD o m) := by
  refine ⟨hb.1, hb.2, by simp [tabD, hm], by simp [tabD, hm], fun r hr => ?_, by simp [tabD, outD], fun x hx => ?_⟩
  · obtain ⟨s, hs, rfl⟩ := List.mem_map.mp hr
    refine ⟨by simp, fun x hx => ?_⟩
    obtain ⟨j, hj, rfl⟩ := List.mem_map.mp hx
    have := hc s j (List.mem_range.mp hs) (List.mem_range.mp hj)
    simp only [Rg, tabD, List.length_map, List.length_range]
    omega
  · obtain ⟨s, hs, rfl⟩ := List.mem_map.mp hx
    have := ho s (List.mem_range.mp hs)
    omega
theorem tabD_step {b m : Nat} {δ : Nat → Nat → Nat} {s j : Nat} (hs : s < m) (hj : j < b) : stepN (tabD b δ m) (s : Int) j = ((δ s j : Nat) : Int) := by
  unfold stepN rowN tabD
  simp [hs, getN, hj]
theorem outD_at {m : Nat} {o : Nat → Nat} {s : Nat} (hs : s < m) : getN (outD o m) (s : Int) = ((o s : Nat) : Int) := by
  unfold outD getN
  simp [hs]
def drawN (ds : List Int) (b m s j : Nat) : Nat := (getN ds (((4 * s + j) % ds.length : Nat) : Int) / (1 + s : Nat) % (m : Int)).toNat
def drawT (ds : List Int) (b m : Nat) (s j : Nat) : Nat := if s = 0 ∧ j = 0 then 0 else drawN ds b m s j
theorem drawN_lt (ds : List Int) (b : Nat) {m : Nat} (hm : 0 < m) (s j : Nat) : drawN ds b m s j < m := by
  unfold drawN
  have h1 := Int.emod_nonneg (getN ds (((4 * s + j) % ds.length : Nat) : Int) / (1 + s : Nat)) (show (m : Int) ≠ 0 by omega)
  have h2 := Int.emod_lt_of_pos (getN ds (((4 * s + j) % ds.length : Nat) : Int) / (1 + s : Nat)) (show (0 : Int) < m by omega)
  omega
theorem drawT_lt (ds : List Int) (b : Nat) {m : Nat} (hm : 0 < m) (s j : Nat) : drawT ds b m s j < m := by
  unfold drawT
  split
  · exact hm
  · exact drawN_lt ds b hm s j
theorem law_rows_eq (ds : List Int) {b m : Nat} (hb : 2 ≤ b ∧ b ≤ 4) (hm : 0 < m ∧ m ≤ 2000) (hd : 0 < ds.length) : m_law_rows [.lst (ds.map D.int), .int b, .int m] = .ok (eLT (tabD b (drawT ds b m) m)) := by
  have row : ∀ (s : Nat), s < m → c_law_rows_1 [.val (.lst (ds.map D.int)), .val (.int b), .val (.int m), .own (eLT (tabD b (drawN ds b m) s)), .val (.int s), .no] = .ok (.lst ((List.range b).map fun j => D.int ((drawN ds b m s j : Nat) : Int))) := fun s hs => by
    refine eLc_one (φ := fun j : Nat => D.int ((drawN ds b m s j : Nat) : Int)) (enc := fun i : Nat => D.int (i : Int)) (List.range b) (iR1_nat b (by omega) (by simp)) (by simp; omega) (by simp) fun j hj => ?_
    have hl : (0 : Int) < ds.length := by omega
    obtain ⟨q, hq⟩ : ∃ q, (4 * s + j) % ds.length = q := ⟨_, rfl⟩
    have i1 : q < ds.length := by rw [← hq]; exact Nat.mod_lt _ hd
    have mm : modD (.int (4 * (s : Int) + j)) (.int ds.length) = .ok (.int (q : Nat)) := by
      rw [x_mod _ _ hl, ← hq]
      simp
    have g := getD_ints (ds := ds) (i := ((q : Nat) : Int)) (by omega) (by omega)
    have fd := x_fdiv (getN ds ((q : Nat) : Int)) (1 + s) (by omega)
    have m0 : (0 : Int) < m := by omega
    have md := x_mod (getN ds ((q : Nat) : Int) / (1 + s)) m m0
    have qq : ((drawN ds b m s j : Nat) : Int) = getN ds (q : Nat) / (1 + s) % m := by
      unfold drawN
      rw [hq]
      have h1 := Int.emod_nonneg (getN ds ((q : Nat) : Int) / (1 + s : Nat)) (show (m : Int) ≠ 0 by omega)
      have e : ((1 + s : Nat) : Int) = 1 + (s : Int) := by omega
      rw [e] at h1 ⊢
      omega
    have mu := x_mulL 4 (s : Int) (by omega)
    rw [qq]
    generalize getN ds ((q : Nat) : Int) = v at *
    generalize v / (1 + (s : Int)) % m = v2 at *
    simp [mu, mm, g, fd, md]
  obtain ⟨Γ', h1, h2⟩ := forK (i := 4) (enc := fun i : Nat => D.int (i : Int)) (body := sWipe [4] (sApp 3 (eN tupD (aCons c_law_rows_1 aNil))))
    (fun k Γ => Γ = [.val (.lst (ds.map D.int)), .val (.int b), .val (.int m), .own (eLT (tabD b (drawN ds b m) k)), .no, .no]) (List.range m) 0 _
    (fun j y Γ hy hJ => by
      obtain ⟨rfl, hj⟩ := range_get hy
      subst hJ
      refine ⟨by simp, ?_⟩
      rw [Nat.zero_add]
      have r := row y hj
      have sz := sizeLt (n := (tabD b (drawN ds b m) y).length) (by simp [tabD]; omega)
      have nx : eLT (tabD b (drawN ds b m) (y + 1)) = .lst ((tabD b (drawN ds b m) y).map eT ++ [.tup ((List.range b).map fun j => D.int ((drawN ds b m y j : Nat) : Int))]) := by
        simp [tabD, List.range_succ]
      rw [nx]
      generalize (List.range b).map (fun j => D.int ((drawN ds b m y j : Nat) : Int)) = rw_ at *
      exact ⟨_, .inl (by simp [r, sz]; rfl), by simp⟩)
    rfl
  subst h2
  have w : w_law_rows_1 [.val (.lst (ds.map D.int)), .val (.int b), .val (.int m), .own (.lst []), .no, .no] = _ := for_of (iR1_nat m (by omega) (by simp)) h1
  rw [Nat.zero_add, List.length_range] at w
  obtain ⟨m', rfl⟩ : ∃ m', m = m' + 1 := ⟨m - 1, by omega⟩
  obtain ⟨b', rfl⟩ : ∃ b', b = b' + 1 := ⟨b - 1, by omega⟩
  have e1 : (tabD (b' + 1) (drawN ds (b' + 1) (m' + 1)) (m' + 1)).map eT = .tup (.int (drawN ds (b' + 1) (m' + 1) 0 0 : Nat) :: (List.range b').map fun j => D.int ((drawN ds (b' + 1) (m' + 1) 0 (j + 1) : Nat) : Int)) :: (List.range m').map fun s => eT ((List.range (b' + 1)).map fun j => ((drawN ds (b' + 1) (m' + 1) (s + 1) j : Nat) : Int)) := by
    simp [tabD, List.range_succ_eq_map]
  have e2 : (tabD (b' + 1) (drawT ds (b' + 1) (m' + 1)) (m' + 1)).map eT = .tup (.int 0 :: (List.range b').map fun j => D.int ((drawN ds (b' + 1) (m' + 1) 0 (j + 1) : Nat) : Int)) :: (List.range m').map fun s => eT ((List.range (b' + 1)).map fun j => ((drawN ds (b' + 1) (m' + 1) (s + 1) j : Nat) : Int)) := by
    simp [tabD, List.range_succ_eq_map, drawT]
  have m1 : mkTup [.int 0] = .ok (.tup [.int 0]) := mkTup_ok (by simp)
  show m_law_rows _ = .ok (.lst _)
  rw [e2]
  rw [show eLT (tabD (b' + 1) (drawN ds (b' + 1) (m' + 1)) (m' + 1)) = .lst _ from congrArg D.lst e1] at w
  generalize hA : (List.range b').map (fun j => D.int ((drawN ds (b' + 1) (m' + 1) 0 (j + 1) : Nat) : Int)) = A at *
  generalize hB : (List.range m').map (fun s => eT ((List.range (b' + 1)).map fun j => ((drawN ds (b' + 1) (m' + 1) (s + 1) j : Nat) : Int))) = B at *
  have lA : A.length = b' := by rw [← hA]; simp
  have lB : B.length = m' := by rw [← hB]; simp
  have g0 : ∀ d, FL.getD (.lst (d :: B)) (.int 0) = .ok d := fun d => by rw [x_getL, atI_nat (x := d) (by omega) (by simp)]
  have sl : ∀ d, slT (.tup (d :: A)) (some 1) none = .ok (.tup A) := fun d => by rw [x_slT, cut_1]; rfl
  have ct := catT_ok (xs := [.int 0]) (ys := A) (by simp; omega)
  have ix : ixN (m' + 1) 0 = some 0 := by
    unfold ixN
    rw [if_pos (by omega), if_pos (by omega)]
    rfl
  generalize ((b' + 1 : Nat) : Int) = bb at *
  generalize ((m' + 1 : Nat) : Int) = mb at *
  simp [m_law_rows, g_law_rows, w, m1, g0, sl, ct, lB, ix]
theorem law_drawn_eq (ds : List Int) (most : Nat) (hd : dOk ds) (hl : 4 ≤ ds.length) (hl2 : ds.length ≤ 1000) (hm : 0 < most ∧ most ≤ 1000) : ∃ (b m : Nat) (δ : Nat → Nat → Nat) (o : Nat → Nat),
    m_law_drawn [.lst (ds.map D.int), .int most] = .ok (.tup [.int b, eTT (tabD b δ m), eT (outD o m)]) ∧ (b : Int) = 2 + getN ds 0 % 3 ∧ b ≤ 4 ∧ 0 < m ∧ m ≤ most ∧ (∀ s j, s < m → j < b → δ s j < m) ∧ δ 0 0 = 0 ∧ ∀ s, o s ≤ 9 := by
  have nn : ∀ i : Int, 0 ≤ i → i < ds.length → 0 ≤ getN ds i := fun i h0 h1 => (hd _ (getN_mem h0 h1)).1
  obtain ⟨b, hb⟩ : ∃ b : Nat, (b : Int) = 2 + getN ds 0 % 3 := ⟨(2 + getN ds 0 % 3).toNat, by have := Int.emod_nonneg (getN ds 0) (show (3 : Int) ≠ 0 by decide); omega⟩
  have b2 : 2 ≤ b ∧ b ≤ 4 := by
    have := Int.emod_nonneg (getN ds 0) (show (3 : Int) ≠ 0 by decide)
    have := Int.emod_lt_of_pos (getN ds 0) (show (0 : Int) < 3 by decide)
    omega
  have mp : (0 : Int) < most := by omega
  obtain ⟨m, hm'⟩ : ∃ m : Nat, (m : Int) = 1 + getN ds 1 % most := ⟨(1 + getN ds 1 % most).toNat, by have := Int.emod_nonneg (getN ds 1) (show (most : Int) ≠ 0 by omega); omega⟩
  have m2 : 0 < m ∧ m ≤ most := by
    have := Int.emod_nonneg (getN ds 1) (show (most : Int) ≠ 0 by omega)
    have := Int.emod_lt_of_pos (getN ds 1) mp
    omega
  obtain ⟨c, hc⟩ : ∃ c : Nat, (c : Int) = getN ds 2 % 3 := ⟨(getN ds 2 % 3).toNat, by have := Int.emod_nonneg (getN ds 2) (show (3 : Int) ≠ 0 by decide); omega⟩
  have c3 : c < 3 := by
    have := Int.emod_lt_of_pos (getN ds 2) (show (0 : Int) < 3 by decide)
    omega
  have ga : ∀ i : Int, 0 ≤ i → i < ds.length → FL.getD (.lst (ds.map D.int)) (.int i) = .ok (.int (getN ds i)) := fun i h0 h1 => getD_ints h0 h1
  have g0 := ga 0 (by omega) (by omega)
  have g1 := ga 1 (by omega) (by omega)
  have g2 := ga 2 (by omega) (by omega)
  have lst3 : mkLst [.int 2, .int 3, .int 10] = .ok (.lst [.int 2, .int 3, .int 10]) := mkLst_ok (by simp)
  obtain ⟨k, hk, gk⟩ : ∃ k : Int, (0 < k ∧ k ≤ 10) ∧ FL.getD (.lst [.int 2, .int 3, .int 10]) (.int c) = .ok (.int k) := by
    obtain rfl | rfl | rfl : c = 0 ∨ c = 1 ∨ c = 2 := by omega
    · exact ⟨2, by omega, rfl⟩
    · exact ⟨3, by omega, rfl⟩
    · exact ⟨10, by omega, rfl⟩
  have rows := law_rows_eq (ds.drop 3) (b := b) (m := m) b2 (by omega) (by rw [List.length_drop]; omega)
  have sl : slL (.lst (ds.map D.int)) (some 3) none = .ok (.lst ((ds.drop 3).map D.int)) := by
    rw [x_slL, show (3 : Int) = ((3 : Nat) : Int) from rfl, cut_from, List.map_drop]
  obtain ⟨o, ho⟩ : ∃ o : Nat → Nat, o = fun s => (getN ds (((3 + (5 * s + 2) % (ds.length - 3) : Nat)) : Int) / 7 % k).toNat := ⟨_, rfl⟩
  have rest : ∀ tR : D, c_law_drawn_1 [.val (.lst (ds.map D.int)), .val (.int most), .val (.int b), .val (.int m), .val tR, .no, .no] = .ok (.lst ((outD o m).map D.int)) := fun tR => by
    have := eLc_one (Γ := [.val (.lst (ds.map D.int)), .val (.int most), .val (.int b), .val (.int m), .val tR, .no, .no]) (i := 6) (φ := fun s : Nat => D.int ((o s : Nat) : Int)) (enc := fun i : Nat => D.int (i : Int)) (List.range m) (its := iN asR1 (aCons (eB 3) aNil)) (iR1_nat m (by omega) (by simp)) (by simp; omega) (by simp)
      (f := (e2 modD (eN FL.intD (aCons (e2 fdivD (e2 FL.getD (eB 0) (e2 addD (eC (.int 3)) (e2 modD (e2 addD (e2 mulD (eC (.int 5)) (eB 6)) (eC (.int 2))) (e2 subD (eN lenD (aCons (eB 0) aNil)) (eC (.int 3)))))) (eC (.int 7))) aNil)) (e2 FL.getD (eN mkLst (aCons (eC (.int 2)) (aCons (eC (.int 3)) (aCons (eC (.int 10)) aNil)))) (e2 modD (eN FL.intD (aCons (e2 FL.getD (eB 0) (eC (.int 2))) aNil)) (eC (.int 3))))))
      fun s hs => by
        rw [List.mem_range] at hs
        have l3 : ((ds.length : Int) - 3) = ((ds.length - 3 : Nat) : Int) := by omega
        have l4 : (0 : Int) < ((ds.length - 3 : Nat) : Int) := by omega
        obtain ⟨q, hq⟩ : ∃ q, (5 * s + 2) % (ds.length - 3) = q := ⟨_, rfl⟩
        have i1 : q < ds.length - 3 := by rw [← hq]; exact Nat.mod_lt _ (by omega)
        have g := ga (3 + (q : Nat)) (by omega) (by omega)
        have mu := x_mulL 5 (s : Int) (by omega)
        have e : ((o s : Nat) : Int) = getN ds (3 + (q : Nat)) / 7 % k := by
          rw [ho]
          have := Int.emod_nonneg (getN ds (3 + (q : Nat)) / 7) (show k ≠ 0 by omega)
          show ((Int.toNat (getN ds ((3 + (5 * s + 2) % (ds.length - 3) : Nat) : Int) / 7 % k) : Nat) : Int) = _
          rw [hq, show ((3 + q : Nat) : Int) = 3 + (q : Nat) by omega]
          omega
        have gc : FL.getD (.lst [.int 2, .int 3, .int 10]) (.int (getN ds 2 % 3)) = .ok (.int k) := by rw [← hc]; exact gk
        have mm : modD (.int (5 * (s : Int) + 2)) (.int ((ds.length : Int) - 3)) = .ok (.int (q : Nat)) := by
          rw [l3, x_mod _ _ l4, ← hq]
          simp
        show _ = Res.ok (D.int ((o s : Nat) : Int))
        rw [e]
        have md := x_mod (getN ds (3 + (q : Nat)) / 7) k hk.1
        generalize getN ds (3 + (q : Nat)) = v at *
        generalize getN ds 2 = v2 at *
        simp [mu, mm, g, g2, x_fdiv, lst3, gc, md]
    rw [c_law_drawn_1, this, outD, List.map_map]
    rfl
  refine ⟨b, m, drawT (ds.drop 3) b m, o, ?_, hb, b2.2, m2.1, m2.2, fun s j _ _ => drawT_lt _ b m2.1 s j, by simp [drawT], fun s => ?_⟩
  · have m3 : ∀ x y z : D, mkTup [x, y, z] = .ok (.tup [x, y, z]) := fun x y z => mkTup_ok (by simp)
    have mm := x_mod (getN ds 1) most mp
    have rs := rest (eLT (tabD b (drawT (ds.drop 3) b m) m))
    rw [hb] at rows rs ⊢
    rw [hm'] at rows rs
    generalize hO : (outD o m).map D.int = tO at *
    generalize (tabD b (drawT (ds.drop 3) b m) m).map eT = tR at *
    generalize (ds.drop 3).map D.int = tS at *
    simp [m_law_drawn, g_law_drawn, g0, g1, mm, sl, rows, rs, m3]
    exact hO.symm
  · rw [ho]
    have h1 := Int.emod_nonneg (getN ds (((3 + (5 * s + 2) % (ds.length - 3) : Nat)) : Int) / 7) (show k ≠ 0 by omega)
    have h2 := Int.emod_lt_of_pos (getN ds (((3 + (5 * s + 2) % (ds.length - 3) : Nat)) : Int) / 7) hk.1
    show Int.toNat _ ≤ 9
    omega
end K22

namespace K22
open PySem L2 FL PM SQ
/-! what the program takes for rows and outputs -/
def isIntS (v : D) (a b : Int) : Bool := match v with
  | .int i => decide (a ≤ i) && decide (i ≤ b)
  | _ => false
theorem is_integerS_any (v : D) (a b : Int) (h : (tyOf v).isSome = true) : m_is_integer [v, .int a, .int b] = .ok (.bl (isIntS v a b)) := by
  cases v <;> first | (simp [tyOf] at h; done) | skip
  case int v => by_cases h : a ≤ v <;> simp [m_is_integer, g_is_integer, isiD, tyOf, subN, h, isIntS]
  all_goals (simp [m_is_integer, g_is_integer, isiD, tyOf, subN, isIntS]; done)
theorem kn_seq {v : D} {xs : List D} (hk : kn v = true) (h : seqOf v = some xs) : lenD [v] = .ok (.int xs.length) ∧ asSeq v = .ok xs ∧ ∀ x ∈ xs, (tyOf x).isSome = true := by
  cases v <;> first | (cases h; done) | skip
  · cases h; exact ⟨by simp, rfl, fun x hx => List.all_eq_true.mp hk x hx⟩
  · cases h; exact ⟨by simp, rfl, fun x hx => List.all_eq_true.mp hk x hx⟩
/-- so many outputs -/
def outsOk (v : D) (c : Int) : Bool := match seqOf v with
  | some xs => decide ((xs.length : Int) = c) && xs.all fun x => isIntS x 0 9
  | none => false
theorem m_types : mkTup [.ty .lst, .ty .tup] = .ok (.tup [.ty .lst, .ty .tup]) := mkTup_ok (by simp)
theorem are_outputs_any (v : D) (c : Int) (hk : kn v = true) (hc : c ≤ 100000) : m_are_outputs [v, .int c] = .ok (.bl (outsOk v c)) := by
  have k1 := kn_isi hk
  unfold outsOk
  cases e : seqOf v with
  | none =>
    rw [e] at k1
    simp [m_are_outputs, g_are_outputs, m_types, k1]
  | some xs =>
    rw [e] at k1
    obtain ⟨k2, k3, k4⟩ := kn_seq hk e
    by_cases q : (xs.length : Int) = c
    · have c1 : c_are_outputs_1 [.bor v, .val (.int c), .no] = .ok (.lst (xs.map fun x => .bl (isIntS x 0 9))) :=
        eLc_one (enc := fun x => x) (φ := fun x => .bl (isIntS x 0 9)) xs (by simp [k3]) (by omega) (by simp) fun x hx => by simp [is_integerS_any x 0 9 (k4 x hx)]
      have al := allD_map xs fun x => isIntS x 0 9
      generalize (xs.map fun x => D.bl (isIntS x 0 9)) = bs at *
      simp [m_are_outputs, g_are_outputs, m_types, k1, k2, q, c1, al]
    · simp [m_are_outputs, g_are_outputs, m_types, k1, k2, q]
/-- one row -/
def rowOkS (w last : Int) (r : D) : Bool := match seqOf r with
  | some xs => decide ((xs.length : Int) = w) && xs.all fun x => isIntS x 0 last
  | none => false
def rowsOk (v : D) (w : Int) : Bool := match seqOf v with
  | some rs => decide (1 ≤ rs.length) && decide (rs.length ≤ 2000) && rs.all (rowOkS w (rs.length - 1))
  | none => false
theorem are_rows_any (v : D) (w : Int) (hv : kn v = true) (hr : ∀ rs, seqOf v = some rs → ∀ r ∈ rs, kn r = true) (hw : w ≤ 100000) : m_are_rows [v, .int w] = .ok (.bl (rowsOk v w)) := by
  have k1 := kn_isi hv
  unfold rowsOk
  cases e : seqOf v with
  | none =>
    rw [e] at k1
    simp [m_are_rows, g_are_rows, m_types, k1]
  | some rs =>
    rw [e] at k1
    dsimp only
    obtain ⟨k2, k3, _⟩ := kn_seq hv e
    have hr := hr rs e
    by_cases q1 : 1 ≤ rs.length
    · have q1' : (1 : Int) ≤ rs.length := by omega
      by_cases q2 : rs.length ≤ 2000
      · have q2' : (rs.length : Int) ≤ 2000 := by omega
        have wl : w_are_rows_1 [.bor v, .val (.int w), .no, .no] = if rs.all (rowOkS w (rs.length - 1)) = true then .nx [.bor v, .val (.int w), .no, .no] else .rt (.bl false) := by
          refine for_of (ds := rs) (by simp [k3]) (forAll _ _ rs fun r hr' => ⟨by simp, ?_⟩)
          have r1 := kn_isi (hr r hr')
          unfold rowOkS
          cases e2 : seqOf r with
          | none =>
            rw [e2] at r1
            simp [m_types, r1]
          | some xs =>
            rw [e2] at r1
            dsimp only
            obtain ⟨r2, r3, r4⟩ := kn_seq (hr r hr') e2
            by_cases q : (xs.length : Int) = w
            · have c1 : c_are_rows_1 [.bor v, .val (.int w), .val r, .no] = .ok (.lst (xs.map fun x => .bl (isIntS x 0 (rs.length - 1)))) :=
                eLc_one (enc := fun x => x) (φ := fun x => .bl (isIntS x 0 (rs.length - 1))) xs (by simp [r3]) (by omega) (by simp) fun x hx => by simp [k2, is_integerS_any x 0 _ (r4 x hx)]
              have al := allD_map xs fun x => isIntS x 0 (rs.length - 1)
              generalize (xs.map fun x => D.bl (isIntS x 0 (rs.length - 1))) = bs at *
              obtain ⟨z, hz⟩ : ∃ z, (xs.all fun x => isIntS x 0 (rs.length - 1)) = z := ⟨_, rfl⟩
              simp only [hz] at al ⊢
              cases z <;> simp [m_types, r1, r2, q, c1, al]
            · simp [m_types, r1, r2, q]
        obtain ⟨z, hz⟩ : ∃ z, rs.all (rowOkS w (rs.length - 1)) = z := ⟨_, rfl⟩
        simp only [hz] at wl ⊢
        cases z <;> simp [m_are_rows, g_are_rows, m_types, k1, k2, q1, q1', q2, q2', wl]
      · have q2' : ¬ (rs.length : Int) ≤ 2000 := by omega
        simp [m_are_rows, g_are_rows, m_types, k1, k2, q1, q1', q2, q2']
    · have q1' : ¬ (1 : Int) ≤ rs.length := by omega
      simp [m_are_rows, g_are_rows, m_types, k1, k2, q1, q1']
/-! the first digits behind which two states differ -/
section
variable {b : Nat} {R1 R2 : List (List Int)} {O1 O2 : List Int} {i j : Int}
def partSt (s1 s2 : D) (i j : Int) (x6 x7 : Cel) (L : List ((Int × Int) × List Nat)) : Slots := [.bor s1, .val (.int i), .bor s2, .val (.int j), .own (waysD L), .own (.lst (L.map fun e => pI e.1)), x6, x7, .no, .no]
theorem parting_w1 (h1 : Ok b R1 O1) (h2 : Ok b R2 O2) {k : Nat} {e : (Int × Int) × List Nat} {L : List ((Int × Int) × List Nat)} (hok : WOk (step2 R1 R2) b (i, j) k 0 L) (he : L[k]? = some e) (hin : in2 R1 R2 e.1) (hL : L.length ≤ 10000000) (x6 : Cel) :
    w_parting_digits_1 (partSt (seqD b R1 O1) (seqD b R2 O2) i j x6 (.val (pI e.1)) L) = .nx (partSt (seqD b R1 O1) (seqD b R2 O2) i j x6 (.val (pI e.1)) ((rowW (step2 R1 R2) e b).foldl addW L)) := by
  obtain ⟨⟨p, q⟩, w⟩ := e
  obtain ⟨hp, hq⟩ := hin
  have g1 := row_get hp
  have g2 := row_get hq
  have fl1 := fld_seq b R1 O1
  have fl2 := fld_seq b R2 O2
  have c1 : FL.getD (pI (p, q)) (.int 0) = .ok (.int p) := pI0 (p, q)
  have c2 : FL.getD (pI (p, q)) (.int 1) = .ok (.int q) := pI1 (p, q)
  have lw : w.length ≤ k := WOk.len hok k _ he
  have lk := (List.getElem?_eq_some_iff.mp he).1
  obtain ⟨w1, w2⟩ := forEgi (h := gN 8) (body := sWipe [8, 9] (sSeq (sVal 9 (eN mkTup (aCons (e2 FL.getD (e2 FL.getD (e1 (fldD 21 1) (eB 0)) (e2 FL.getD (eB 7) (eC (.int 0)))) (eB 8)) (aCons (e2 FL.getD (e2 FL.getD (e1 (fldD 21 1) (eB 2)) (e2 FL.getD (eB 7) (eC (.int 1)))) (eB 8)) aNil)))) (sIf (nT (e2 nninD (eB 9) (eB 4))) (sSeq (sPutN 4 (eV 9) (eN mkTup (aStar (e2 ngetD (eB 4) (eB 7)) (aCons (eV 8) aNil)))) (sApp 5 (eV 9))) sNx))) (enc := fun i : Nat => D.int (i : Int))
    (partSt (seqD b R1 O1) (seqD b R2 O2) i j x6 (.val (pI (p, q)))) (fun M n => addW M (step2 R1 R2 (p, q) n, w ++ [n])) (fun n M => M = (rowW (step2 R1 R2) ((p, q), w) n).foldl addW L ∧ M.length ≤ L.length + n) (List.range b) 0 L
    (fun n M x hx hM => by
      obtain ⟨rfl, hjn⟩ := range_get hx
      rw [Nat.zero_add] at hM
      obtain ⟨hM, lM⟩ := hM
      have okM : WOk (step2 R1 R2) b (i, j) k x M := by rw [hM]; exact hok.row he x (by omega)
      have inM : ((p, q), w) ∈ M := by
        obtain ⟨r, hr⟩ := rowW_pre (δ := step2 R1 R2) (L := L) ((p, q), w) x
        rw [hM, hr]
        exact List.mem_append_left _ (List.mem_of_getElem? he)
      have i1 := h1.item hp hjn
      have i2 := h2.item hq hjn
      have sz1 := sizeLt (n := M.length) (by have := h1.b4; omega)
      have nm := ways_in M (step2 R1 R2 (p, q) x)
      have gw : ngetD (waysD M) (pI (p, q)) = .ok (eNt w) := ways_get okM.nd inM
      have m1 : mkTup [.int (stepN R1 p x), .int (stepN R2 q x)] = .ok (pI (step2 R1 R2 (p, q) x)) := mkTup_ok (by simp)
      have m2 : mkTup ((w.map fun d : Nat => D.int (d : Int)) ++ [.int (x : Nat)]) = .ok (eNt (w ++ [x])) := by
        rw [mkTup_ok (by simp; omega), eNt, List.map_append]
        rfl
      refine ⟨(partSt (seqD b R1 O1) (seqD b R2 O2) i j x6 (.val (pI (p, q))) M).set 8 (.val (.int (x : Nat))), by simp [partSt], ?_⟩
      have up : addW M (step2 R1 R2 (p, q) x, w ++ [x]) = (rowW (step2 R1 R2) ((p, q), w) (x + 1)).foldl addW L := by rw [rowW_succ, hM]
      by_cases z : step2 R1 R2 (p, q) x ∈ M.map Prod.fst
      · have q1 : addW M (step2 R1 R2 (p, q) x, w ++ [x]) = M := if_pos z
        rw [decide_eq_true z] at nm
        refine ⟨.inl ?_, by rw [Nat.zero_add]; exact up, by rw [q1]; omega⟩
        rw [q1]
        simp only [partSt]
        generalize pI (step2 R1 R2 (p, q) x) = y at *
        generalize pI (p, q) = pq at *
        generalize seqD b R1 O1 = a1 at *
        generalize seqD b R2 O2 = a2 at *
        generalize waysD M = sM at *
        generalize eTT R2 = t2 at *
        generalize eTT R1 = t1 at *
        generalize eT (rowN R1 p) = t3 at *
        generalize eT (rowN R2 q) = t4 at *
        simp [fl1, fl2, c1, c2, g1, g2, i1, i2, m1, nm]
      · have q1 : addW M (step2 R1 R2 (p, q) x, w ++ [x]) = M ++ [(step2 R1 R2 (p, q) x, w ++ [x])] := if_neg z
        rw [decide_eq_false z] at nm
        have np := ways_put (w := w ++ [x]) z (by have := h1.b4; omega)
        refine ⟨.inl ?_, by rw [Nat.zero_add]; exact up, by rw [q1]; simp; omega⟩
        rw [q1]
        have s1 : ((M ++ [(step2 R1 R2 (p, q) x, w ++ [x])]).map fun e => pI e.1) = (M.map fun e => pI e.1) ++ [pI (step2 R1 R2 (p, q) x)] := by simp
        have l2 : (M.map fun e => pI e.1).length = M.length := by simp
        simp only [partSt, s1]
        generalize waysD (M ++ [(step2 R1 R2 (p, q) x, w ++ [x])]) = sM2 at *
        generalize eNt (w ++ [x]) = bw at *
        generalize pI (step2 R1 R2 (p, q) x) = y at *
        generalize (M.map fun e => pI e.1) = sO at *
        generalize pI (p, q) = pq at *
        generalize seqD b R1 O1 = a1 at *
        generalize seqD b R2 O2 = a2 at *
        generalize waysD M = sM at *
        generalize eTT R2 = t2 at *
        generalize eTT R1 = t1 at *
        generalize eT (rowN R1 p) = t3 at *
        generalize eT (rowN R2 q) = t4 at *
        simp [fl1, fl2, c1, c2, g1, g2, i1, i2, m1, m2, nm, np, gw, l2, sz1])
    ⟨rfl, by omega⟩
  have q3 : (rowW (step2 R1 R2) ((p, q), w) b).foldl addW L = (List.range b).foldl (fun M n => addW M (step2 R1 R2 (p, q) n, w ++ [n])) L := by
    unfold rowW
    rw [List.foldl_map]
  rw [q3]
  refine for_of (iR1_nat b (by have := h1.b4; omega) ?_) w1
  simp only [partSt]
  generalize pI (p, q) = pq at *
  generalize seqD b R1 O1 = a1 at *
  generalize seqD b R2 O2 = a2 at *
  simp [fl1]
theorem parting_w2 (h1 : Ok b R1 O1) (h2 : Ok b R2 O2) (hi : Rg R1 i) (hj : Rg R2 j) :
    (∃ k, w_parting_digits_2 (partSt (seqD b R1 O1) (seqD b R2 O2) i j (.val (.int 0)) .no (run2 R1 R2 b i j 0)) = .nx (partSt (seqD b R1 O1) (seqD b R2 O2) i j (.val (.int (k : Nat))) .no (run2 R1 R2 b i j k)) ∧ noneTo R1 R2 O1 O2 b i j k ∧ (run2 R1 R2 b i j k).length ≤ k) ∨
      ∃ r, w_parting_digits_2 (partSt (seqD b R1 O1) (seqD b R2 O2) i j (.val (.int 0)) .no (run2 R1 R2 b i j 0)) = .rt r ∧ ∃ w, r = eNt w ∧ IsFirst b (diffW R1 R2 O1 O2 i j) w := by
  have big : R1.length * R2.length ≤ 4000000 := Nat.mul_le_mul h1.top h2.top
  have key := whileR (c := nT (e2 ltD (eB 6) (eN lenD (aCons (eB 5) aNil))))
    (body := sWipe [7, 8, 9] (sSeq (sVal 7 (e2 FL.getD (eB 5) (eB 6))) (sSeq (sIf (nT (e2 neD (e2 FL.getD (e1 (fldD 21 2) (eB 0)) (e2 FL.getD (eB 7) (eC (.int 0)))) (e2 FL.getD (e1 (fldD 21 2) (eB 2)) (e2 FL.getD (eB 7) (eC (.int 1)))))) (sRet (e2 ngetD (eB 4) (eB 7))) sNx) (sSeq (sWipe [8, 9] w_parting_digits_1) (sAug addD 6 (eC (.int 1)))))))
    (fun k : Nat => partSt (seqD b R1 O1) (seqD b R2 O2) i j (.val (.int (k : Nat))) .no (run2 R1 R2 b i j k)) (fun k => noneTo R1 R2 O1 O2 b i j k) (fun k => (run2 R1 R2 b i j k).length ≤ k)
    (fun r => ∃ w, r = eNt w ∧ IsFirst b (diffW R1 R2 O1 O2 i j) w) (fun k => R1.length * R2.length - k)
    (fun k hk => by
      have ll := run2_len h1 h2 hi hj k
      by_cases q : k < (run2 R1 R2 b i j k).length
      · right
        obtain ⟨e, he⟩ : ∃ e, (run2 R1 R2 b i j k)[k]? = some e := ⟨_, List.getElem?_eq_getElem q⟩
        have ok := runW_ok (step2 R1 R2) b (i, j) k
        have hm := List.mem_of_getElem? he
        have ein := run2_in h1 h2 hi hj k e hm
        have w1 := parting_w1 h1 h2 ok he ein (by have : (runW (step2 R1 R2) b (i, j) k).length ≤ _ := ll; omega) (.val (.int (k : Nat)))
        have q3 : (rowW (step2 R1 R2) e b).foldl addW (runW (step2 R1 R2) b (i, j) k) = run2 R1 R2 b i j (k + 1) := (runW_succ he).symm
        rw [q3] at w1
        have go : FL.getD (.lst ((run2 R1 R2 b i j k).map fun e => pI e.1)) (.int (k : Nat)) = .ok (pI e.1) := getD_map (enc := fun e : (Int × Int) × List Nat => pI e.1) (by omega) (by rw [Int.toNat_natCast]; exact he)
        have fl1 := fld_seq b R1 O1
        have fl2 := fld_seq b R2 O2
        have c1 := pI0 e.1
        have c2 := pI1 e.1
        have i1 := h1.out ein.1
        have i2 := h2.out ein.2
        have first : diffP O1 O2 e.1 = true → IsFirst b (diffW R1 R2 O1 O2 i j) e.2 := fun hc =>
          found_first (p := diffP O1 O2) (K := R1.length * R2.length) (run2_len h1 h2 hi hj _) he hc hk
        have up := noneTo_up hk he
        have gw : ngetD (waysD (run2 R1 R2 b i j k)) (pI e.1) = .ok (eNt e.2) := ways_get ok.nd hm
        refine ⟨?_, ?_⟩
        · simp [partSt, q]
        · simp only [partSt] at w1 ⊢
          have fin : ∀ wd, wd = eNt e.2 → IsFirst b (diffW R1 R2 O1 O2 i j) e.2 → ∃ w, wd = eNt w ∧ IsFirst b (diffW R1 R2 O1 O2 i j) w := fun wd hwd hf => ⟨e.2, hwd, hf⟩
          have df : diffP O1 O2 e.1 = !decide (getN O1 e.1.1 = getN O2 e.1.2) := rfl
          generalize eNt e.2 = we at *
          generalize pI e.1 = pe at *
          generalize seqD b R1 O1 = a1 at *
          generalize seqD b R2 O2 = a2 at *
          generalize waysD (run2 R1 R2 b i j k) = sM at *
          generalize ((run2 R1 R2 b i j k).map fun e => pI e.1) = sO at *
          generalize eT O1 = t1 at *
          generalize eT O2 = t2 at *
          generalize getN O1 e.1.1 = z1 at *
          generalize getN O2 e.1.2 = z2 at *
          by_cases c : z1 = z2
          · rw [decide_eq_true c] at df
            refine .inl ⟨k + 1, .inl ?_, up df, by omega⟩
            simp [go, fl1, fl2, c1, c2, i1, i2, c, w1]
          · rw [decide_eq_false c] at df
            refine .inr ⟨we, ?_, fin we rfl (first df)⟩
            simp [go, fl1, fl2, c1, c2, i1, i2, c, gw]
      · left
        refine ⟨?_, by omega⟩
        simp [partSt]
        omega)
    FUEL 0 (fun i hi => by omega) (by
      have : FUEL = 1099511627776 := rfl
      omega)
  rcases key with ⟨k, e, i1, i2⟩ | ⟨r, e, hr⟩
  · exact .inl ⟨k, e, i1, i2⟩
  · exact .inr ⟨r, e, hr⟩
theorem parting_eq (h1 : Ok b R1 O1) (h2 : Ok b R2 O2) (hi : Rg R1 i) (hj : Rg R2 j) : ∃ o, m_parting_digits [seqD b R1 O1, .int i, seqD b R2 O2, .int j] = .ok (optD o) ∧ FirstIs b (diffW R1 R2 O1 O2 i j) o := by
  have w2 := parting_w2 h1 h2 hi hj
  have s0 : partSt (seqD b R1 O1) (seqD b R2 O2) i j (.val (.int 0)) .no (run2 R1 R2 b i j 0) = [.bor (seqD b R1 O1), .val (.int i), .bor (seqD b R2 O2), .val (.int j), .own (.dN [(kP (i, j), .tup [])]), .own (.lst [pI (i, j)]), .val (.int 0), .no, .no, .no] := rfl
  rw [s0] at w2
  have m1 : mkTup [.int i, .int j] = .ok (pI (i, j)) := mkTup_ok (by simp)
  have l3 : mkLst [pI (i, j)] = .ok (.lst [pI (i, j)]) := mkLst_ok (by simp)
  have np : nput (.dN []) (pI (i, j)) (.tup []) = .ok (.dN [(kP (i, j), .tup [])]) := ways_put (L := []) (p := (i, j)) (w := []) (by simp) (by simp)
  rcases w2 with ⟨k, e, i1, i2⟩ | ⟨r, e, w, rfl, hw⟩
  · refine ⟨none, ?_, fun u hu => ?_⟩
    · generalize pI (i, j) = pe at *
      generalize seqD b R1 O1 = a1 at *
      generalize seqD b R2 O2 = a2 at *
      generalize (D.dN [(kP (i, j), .tup [])]) = dd at *
      simp only [partSt] at e
      simp [m_parting_digits, g_parting_digits, m1, l3, np, e, optD]
    · refine none_first (p := diffP O1 O2) i2 (fun e he => ?_) u hu
      obtain ⟨n, hn⟩ := List.getElem?_of_mem he
      exact i1 n (by have := (List.getElem?_eq_some_iff.mp hn).1; unfold run2 at i2; omega) e hn
  · refine ⟨some w, ?_, hw⟩
    generalize pI (i, j) = pe at *
    generalize seqD b R1 O1 = a1 at *
    generalize seqD b R2 O2 = a2 at *
    generalize (D.dN [(kP (i, j), .tup [])]) = dd at *
    generalize hwd : eNt w = wd at *
    simp [m_parting_digits, g_parting_digits, m1, l3, np, e, optD, hwd]
end
/-! the making of a sequence -/
theorem seq_kinds {e : List Int → D} (he : e = eT ∨ e = eLi) (l : List Int) : seqOf (e l) = some (l.map D.int) ∧ kn (e l) = true ∧ tupA [e l] = .ok (eT l) ∧ tupD [eLi l] = .ok (eT l) := by
  have : (l.map D.int).all (fun x => (tyOf x).isSome) = true := by
    rw [List.all_map, List.all_eq_true]
    exact fun _ _ => rfl
  rcases he with rfl | rfl <;> exact ⟨rfl, this, rfl, rfl⟩
/-- rows and outputs as they are handed in -/
structure Given (R : List (List Int)) (O : List Int) (v o : D) : Prop where
  v : ∃ e : List Int → D, (e = eT ∨ e = eLi) ∧ (v = .lst (R.map e) ∨ v = .tup (R.map e))
  o : o = eT O ∨ o = eLi O
theorem outsOk_of {O : List Int} {o : D} (ho : o = eT O ∨ o = eLi O) {m : Nat} (hl : O.length = m) (h9 : ∀ x ∈ O, 0 ≤ x ∧ x ≤ 9) : outsOk o m = true ∧ kn o = true := by
  have k : ∃ e : List Int → D, (e = eT ∨ e = eLi) ∧ o = e O := by
    rcases ho with rfl | rfl
    · exact ⟨eT, .inl rfl, rfl⟩
    · exact ⟨eLi, .inr rfl, rfl⟩
  obtain ⟨e, he, rfl⟩ := k
  obtain ⟨k1, k2, _⟩ := seq_kinds he O
  refine ⟨?_, k2⟩
  unfold outsOk
  rw [k1]
  simp only [List.length_map, hl, decide_true, Bool.true_and, List.all_map, List.all_eq_true]
  intro x hx
  have := h9 x hx
  simp [isIntS, this]
theorem rowsOk_of {b : Nat} {R : List (List Int)} {O : List Int} (h : Ok b R O) {v : D} (hv : ∃ e : List Int → D, (e = eT ∨ e = eLi) ∧ (v = .lst (R.map e) ∨ v = .tup (R.map e))) :
    rowsOk v b = true ∧ kn v = true ∧ (∀ rs, seqOf v = some rs → ∀ r ∈ rs, kn r = true) ∧ lenD [v] = .ok (.int R.length) ∧ ∃ rs, asSeq v = .ok rs ∧ rs.length = R.length ∧ (rs.map fun r => tupA [r]) = R.map fun r => .ok (eT r) := by
  obtain ⟨e, he, hv⟩ := hv
  have s : seqOf v = some (R.map e) := by rcases hv with rfl | rfl <;> rfl
  have k : kn v = true := by
    have : (R.map e).all (fun x => (tyOf x).isSome) = true := by
      rw [List.all_map, List.all_eq_true]
      intro r _
      rcases he with rfl | rfl <;> rfl
    rcases hv with rfl | rfl <;> exact this
  obtain ⟨k2, k3, _⟩ := kn_seq k s
  refine ⟨?_, k, fun rs q r hr => ?_, by rw [k2, List.length_map], R.map e, k3, by simp, ?_⟩
  · unfold rowsOk
    rw [s]
    have h1 := h.pos
    have h2 := h.top
    simp only [List.length_map, Bool.and_eq_true, decide_eq_true_eq, List.all_map, List.all_eq_true]
    refine ⟨⟨by omega, h2⟩, fun r hr => ?_⟩
    obtain ⟨q1, q2⟩ := h.rows r hr
    show rowOkS b (R.length - 1) (e r) = true
    unfold rowOkS
    rw [(seq_kinds he r).1]
    simp only [List.length_map, q1, decide_true, Bool.true_and, List.all_map, List.all_eq_true]
    intro x hx
    have := q2 x hx
    show (decide (0 ≤ x) && decide (x ≤ (R.length : Int) - 1)) = true
    simp [this.1]
    omega
  · rw [s] at q
    cases q
    obtain ⟨l, hl, rfl⟩ := List.mem_map.mp hr
    exact (seq_kinds he l).2.1
  · rw [List.map_map]
    exact List.map_congr_left fun r _ => (seq_kinds he r).2.2.1
end K22

namespace K22
open PySem L2 FL PM SQ
theorem init_eq {b : Nat} {R : List (List Int)} {O : List Int} (h : Ok b R O) (hq : Quiet b R O) {v o : D} (g : Given R O v o) : m_Sequence__init_ [.int b, v, o] = .ok (seqD b R O) := by
  obtain ⟨r1, r2, r3, r4, rs, r5, r6, r7⟩ := rowsOk_of h g.v
  obtain ⟨o1, o2⟩ := outsOk_of g.o h.olen h.outs
  have hb := h.b4
  have ar := are_rows_any v b r2 r3 (by omega)
  rw [r1] at ar
  have ao := are_outputs_any o R.length o2 (by have := h.top; omega)
  rw [o1] at ao
  have ib : m_is_integer [.int b, .int 2, .int 4] = .ok (.bl true) := by
    rw [is_integerS_any _ _ _ rfl]
    have := h.b2
    have q1 : (2 : Int) ≤ b := by omega
    have q2 : (b : Int) ≤ 4 := by omega
    simp [isIntS, q1, q2]
  have c1 : ∀ fs : List D, c_Sequence__init__1 [.own (.ins 21 fs), .val (.int b), .val v, .val o, .no] = .ok (.lst (R.map eT)) := fun fs => by
    have lx : ∀ (xs : List D) (ys : List D), (xs.map fun r => tupA [r]) = ys.map (fun y => Res.ok y) → xs.length ≤ 16777216 → ∀ (its : Slots → Res (List D)) (Γ : Slots), its Γ = .ok xs → Γ.length = 5 → eLc [4] its (gN 4) nYes (eN tupA (aCons (eV 4) aNil)) Γ = .ok (.lst ys) := fun xs ys hm hl its Γ hi hg => by
      have key : ∀ (xs ys : List D), (xs.map fun r => tupA [r]) = ys.map (fun y => Res.ok y) → lcD (gN 4) nYes (eN tupA (aCons (eV 4) aNil)) (Γ.set 4 .no) xs = some ys := by
        intro xs
        induction xs with
        | nil => intro ys h; cases ys with
          | nil => rfl
          | cons y ys => cases h
        | cons x xs ih =>
          intro ys h
          cases ys with
          | nil => cases h
          | cons y ys =>
            rw [List.map_cons, List.map_cons] at h
            injection h with p1 p2
            have g4 : gN 4 x (Γ.set 4 .no) = .ok (Γ.set 4 (.val x)) := by
              rw [x_gN, if_pos (by rw [List.length_set]; omega), List.set_set]
            have gv : (Γ.set 4 (Cel.val x))[4]? = some (.val x) := List.getElem?_set_self (by omega)
            unfold lcD
            simp [hg, gv, p1, toO, ih ys p2]
      unfold eLc
      rw [hi, Res.bind_ok, if_pos (by rw [show sizeLine = 16777216 by decide]; exact hl)]
      show (match lcD (gN 4) nYes (eN tupA (aCons (eV 4) aNil)) (Γ.set 4 .no) xs with | some out => Res.ok (D.lst out) | none => .stuck) = _
      rw [key xs ys hm]
    exact lx rs (R.map eT) (by rw [r7, List.map_map]; rfl) (by rw [r6]; have := h.top; omega) _ _ (by simp [r5]) (by simp)
  have to : tupA [o] = .ok (eT O) := by rcases g.o with rfl | rfl <;> rfl
  obtain ⟨p, hp, hf⟩ := parting_eq h h h.in0 (h.step h.in0 (by have := h.b2; omega : 0 < b))
  have pn : p = none := FirstIs.unique hf (o' := none) hq
  subst pn
  have g0 := row_get h.in0
  have g1 : FL.getD (eT (rowN R 0)) (.int 0) = .ok (.int (stepN R 0 0)) := h.item h.in0 (by have := h.b2; omega : 0 < b)
  have tR : tupD [.lst (R.map eT)] = .ok (eTT R) := rfl
  have fl := fld_seq b R O
  have hc : (D.ins 21 [.int b, eTT R, eT O]) = seqD b R O := rfl
  unfold optD at hp
  generalize eT O = tO at *
  generalize R.map eT = lR at *
  generalize eTT R = ttR at *
  generalize eT (rowN R 0) = t0 at *
  simp [m_Sequence__init_, g_Sequence__init_, ib, ar, ao, r4, c1, to, tR, hc, fl, g0, g1, hp]
end K22

namespace K22
open PySem L2 FL PM SQ
/-! numbers of things in the order in which they come: the program's way -/
theorem vals_eq {α : Type} [DecidableEq α] {xs : List α} {vals : List D} (hl : vals.length = xs.length) (h : ∀ n x, xs[n]? = some x → vals[n]? = some (D.int ((num (addK ((xs.take n).foldl addK []) x) x : Nat) : Int))) : vals = numsD xs := by
  refine List.ext_getElem? fun n => ?_
  unfold numsD
  rw [List.getElem?_map]
  cases e : xs[n]? with
  | none =>
    have := List.getElem?_eq_none_iff.mp e
    rw [List.getElem?_eq_none (by omega)]
    rfl
  | some x =>
    obtain ⟨q1, q2⟩ := num_take e
    rw [h n x e, q1, q2]
    rfl
theorem numbers_I_eq (xs : List Int) (hl : xs.length ≤ 100000) : m_numbers_I [eT xs] = .ok (.lst (numsD xs)) := by
  obtain ⟨vals, h1, _, h3, h4⟩ := lcX_run (enc := D.int) (i := 2) (g := xSetI 1 (eB 2) (eN lenK (aCons (eB 1) aNil))) (fun ks : List Int => [.val (eT xs), .own (.dI (keyE id 0 ks)), .no]) (fun ks x => .int ((num (addK ks x) x : Nat) : Int)) addK (fun k ks => ks.length ≤ k) xs 0 []
    (fun j ks x hx hk => by
      have hj := (List.getElem?_eq_some_iff.mp hx).1
      have sz := sizeLt (n := (keyE id 0 ks).length) (by rw [keyE_len]; omega)
      have l := keyE_lk (key := (id : Int → Int)) (fun a b h => h) ks 0 x
      have ll := keyE_len (key := (id : Int → Int)) ks 0
      have l : lk (keyE id 0 ks) x = _ := l
      refine ⟨by simp, ?_, by unfold addK; split <;> simp <;> omega⟩
      by_cases q : x ∈ ks
      · rw [if_pos q, Nat.zero_add] at l
        rw [addK_in q]
        generalize eT xs = t at *
        generalize keyE id 0 ks = kk at *
        exact ⟨_, by simp [sz, l]; rfl, by simp [noB], by simp⟩
      · rw [if_neg q] at l
        rw [addK_out q, num_new q, keyE_snoc, ← ll]
        generalize eT xs = t at *
        generalize keyE id 0 ks = kk at *
        exact ⟨_, by simp [sz, l]; rfl, by simp [noB], by simp⟩)
    (by simp)
  have e := vals_eq h3 h4
  subst e
  have c1 : c_numbers_I_1 [.val (eT xs), .own (.dI []), .no] = .ok (.lst (numsD xs), [.val (eT xs), .own (.dI (keyE id 0 (xs.foldl addK []))), .no]) := by
    unfold c_numbers_I_1 xLc
    have it : iS (eV 0) [.val (eT xs), .own (.dI []), .no] = .ok (xs.map D.int) := by simp
    rw [it, Res.bind_ok, if_pos ⟨by rw [List.length_map]; exact sizeLe (by omega), rfl⟩]
    have : lcX (gN 2) (xSetI 1 (eB 2) (eN lenK (aCons (eB 1) aNil))) [2] (wipeG [.val (eT xs), .own (.dI []), .no] [2]) (xs.map D.int) = _ := h1
    rw [this]
  generalize eT xs = t at *
  simp [m_numbers_I, g_numbers_I, c1]
theorem numbers_T_eq (xs : List (Nat × List Nat)) (hl : xs.length ≤ 100000) : m_numbers_T [.lst (xs.map sD)] = .ok (.lst (numsD xs)) := by
  obtain ⟨vals, h1, _, h3, h4⟩ := lcX_run (enc := sD) (i := 2) (g := xSetN 1 (eV 2) (eN lenN (aCons (eB 1) aNil))) (fun ks : List (Nat × List Nat) => [.val (.lst (xs.map sD)), .own (.dN (keyE kS 0 ks)), .no]) (fun ks x => .int ((num (addK ks x) x : Nat) : Int)) addK (fun k ks => ks.length ≤ k) xs 0 []
    (fun j ks x hx hk => by
      have hj := (List.getElem?_eq_some_iff.mp hx).1
      have sz := sizeLt (n := (keyE kS 0 ks).length) (by rw [keyE_len]; omega)
      have l := keyE_lk kS_inj ks 0 x
      have ll := keyE_len (key := kS) ks 0
      have nt := nkT_sD x
      refine ⟨by simp, ?_, by unfold addK; split <;> simp <;> omega⟩
      by_cases q : x ∈ ks
      · rw [if_pos q, Nat.zero_add] at l
        rw [addK_in q]
        generalize sD x = dx at *
        generalize (xs.map sD) = t at *
        generalize keyE kS 0 ks = kk at *
        exact ⟨_, by simp [sz, l, nt]; rfl, by simp [noB], by simp⟩
      · rw [if_neg q] at l
        rw [addK_out q, num_new q, keyE_snoc, ← ll]
        generalize sD x = dx at *
        generalize (xs.map sD) = t at *
        generalize keyE kS 0 ks = kk at *
        exact ⟨_, by simp [sz, l, nt]; rfl, by simp [noB], by simp⟩)
    (by simp)
  have e := vals_eq h3 h4
  subst e
  have c1 : c_numbers_T_1 [.val (.lst (xs.map sD)), .own (.dN []), .no] = .ok (.lst (numsD xs), [.val (.lst (xs.map sD)), .own (.dN (keyE kS 0 (xs.foldl addK []))), .no]) := by
    unfold c_numbers_T_1 xLc
    have it : iS (eV 0) [.val (.lst (xs.map sD)), .own (.dN []), .no] = .ok (xs.map sD) := by simp
    rw [it, Res.bind_ok, if_pos ⟨by rw [List.length_map]; exact sizeLe (by omega), rfl⟩]
    have : lcX (gN 2) (xSetN 1 (eV 2) (eN lenN (aCons (eB 1) aNil))) [2] (wipeG [.val (.lst (xs.map sD)), .own (.dN []), .no] [2]) (xs.map sD) = _ := h1
    rw [this]
  generalize (xs.map sD) = t at *
  simp [m_numbers_T, g_numbers_T, c1]
end K22

namespace K22
open PySem L2 FL PM SQ
/-! the least sequence -/
section
variable {b : Nat} {R : List (List Int)} {O : List Int}
theorem least_w1 (h : Ok b R O) (B : Int → Nat) (c : Int) (x6 x7 x8 x9 x10 : Cel) :
    w_least_sequence_1 [.val (seqD b R O), .val (.lst (blD R B)), .val (.int c), .own (.lst []), .no, .no, x6, x7, x8, x9, x10] =
      .nx [.val (seqD b R O), .val (.lst (blD R B)), .val (.int c), .own (.lst (((states R).map (sightN b R B)).map sD)), .no, .no, x6, x7, x8, x9, x10] := by
  have fl := fld_seq b R O
  obtain ⟨w1, _⟩ := forEgi (h := gT 2 (gsC (gN 4) (gsC (gN 5) gsN))) (body := sWipe [4, 5] (sApp 3 (eN mkTup (aCons (e2 FL.getD (eB 1) (eB 4)) (aCons (eN tupD (aCons c_least_sequence_1 aNil)) aNil))))) (enc := fun s : Int => D.tup [.int s, eT (rowN R s)])
    (fun ps : List (Nat × List Nat) => [.val (seqD b R O), .val (.lst (blD R B)), .val (.int c), .own (.lst (ps.map sD)), .no, .no, x6, x7, x8, x9, x10]) (fun ps s => ps ++ [sightN b R B s]) (fun k ps => ps.length = k) (states R) 0 []
    (fun j ps s hx hj => by
      have hs := mem_states.mp (List.mem_of_getElem? hx)
      have hjl := (List.getElem?_eq_some_iff.mp hx).1
      rw [states_len] at hjl
      have top := h.top
      have g1 : FL.getD (.lst (blD R B)) (.int s) = .ok (.int ((B s : Nat) : Int)) := bl_get hs
      have sz := sizeLt (n := ps.length) (by omega)
      have c1 : c_least_sequence_1 [.val (seqD b R O), .val (.lst (blD R B)), .val (.int c), .own (.lst (ps.map sD)), .val (.int s), .val (eT (rowN R s)), x6, x7, x8, x9, x10] = .ok (.lst ((rowN R s).map fun x => D.int ((B x : Nat) : Int))) :=
        eLc_one (enc := D.int) (φ := fun x => D.int ((B x : Nat) : Int)) (rowN R s) (by simp) (by rw [h.rlen hs]; have := h.b4; omega) (by simp) fun x hx => by
          have g2 : FL.getD (.lst (blD R B)) (.int x) = .ok (.int ((B x : Nat) : Int)) := bl_get ((h.rows _ (row_mem hs)).2 x hx)
          generalize D.lst (blD R B) = bl at *
          simp [g2]
      have ee : eNt ((List.range b).map fun j => B (stepN R s j)) = .tup ((rowN R s).map fun x => D.int ((B x : Nat) : Int)) := by
        rw [row_range h hs, List.map_map, eNt, List.map_map]
        rfl
      have up : (ps ++ [sightN b R B s]).map sD = ps.map sD ++ [.tup [.int ((B s : Nat) : Int), .tup ((rowN R s).map fun x => D.int ((B x : Nat) : Int))]] := by
        rw [List.map_append, ← ee]
        rfl
      have m2 : ∀ x y : D, mkTup [x, y] = .ok (.tup [x, y]) := fun x y => mkTup_ok (by simp)
      refine ⟨[.val (seqD b R O), .val (.lst (blD R B)), .val (.int c), .own (.lst (ps.map sD)), .val (.int s), .val (eT (rowN R s)), x6, x7, x8, x9, x10], by simp, .inl ?_, by rw [List.length_append, hj]; rfl⟩
      rw [up]
      have l1 : (ps.map sD).length = ps.length := List.length_map _
      generalize (rowN R s).map (fun x => D.int ((B x : Nat) : Int)) = rr at *
      generalize seqD b R O = sq at *
      generalize D.lst (blD R B) = bl at *
      generalize eT (rowN R s) = tr at *
      generalize ps.map sD = pd at *
      simp [g1, c1, m2, l1, sz])
    rfl
  have ff : (states R).foldl (fun ps s => ps ++ [sightN b R B s]) [] = (states R).map (sightN b R B) := by
    have : ∀ (xs : List Int) (ps : List (Nat × List Nat)), xs.foldl (fun ps s => ps ++ [sightN b R B s]) ps = ps ++ xs.map (sightN b R B) := by
      intro xs
      induction xs with
      | nil => intro ps; simp
      | cons x xs ih => intro ps; rw [List.foldl_cons, ih]; simp
    rw [this]
    rfl
  rw [ff] at w1
  refine for_of ?_ w1
  have en := enum_rows R
  show iN asEnumT (aCons (e1 (fldD 21 1) (eB 0)) aNil) _ = .ok ((states R).map fun s => D.tup [.int s, eT (rowN R s)])
  rw [← en]
  generalize seqD b R O = sq at *
  simp [fl]
theorem least_w2 (h : Ok b R O) (x6 x7 x8 x9 x10 : Cel) {B0 : Int → Nat} {c0 : Nat} (hB : Blk b R O 0 B0 c0) :
    ∃ B c, w_least_sequence_2 [.val (seqD b R O), .val (.lst (blD R B0)), .val (.int 0), .no, .no, .no, x6, x7, x8, x9, x10] = .nx [.val (seqD b R O), .val (.lst (blD R B)), .val (.int c), .no, .no, .no, x6, x7, x8, x9, x10] ∧ Fin b R O B := by
  have key := whileR (c := nT (e2 gtD (e2 addD (eN maxD (aCons (eB 1) aNil)) (eC (.int 1))) (eB 2)))
    (body := sWipe [3, 4, 5] (sSeq (sVal 2 (e2 addD (eN maxD (aCons (eB 1) aNil)) (eC (.int 1)))) (sSeq (sOwn 3 (eN mkLst aNil)) (sSeq (sWipe [4, 5] w_least_sequence_1) (sFrz 3 (sVal 1 (eN m_numbers_T (aCons (eV 3) aNil))))))))
    (β := (Int → Nat) × Nat × Nat) (fun p => [.val (seqD b R O), .val (.lst (blD R p.1)), .val (.int (p.2.2 : Nat)), .no, .no, .no, x6, x7, x8, x9, x10])
    (fun p => ∃ k, Blk b R O k p.1 p.2.1 ∧ (k = 0 ∧ p.2.2 = 0 ∨ ∃ k' B', k = k' + 1 ∧ Blk b R O k' B' p.2.2)) (fun p => p.2.1 ≤ p.2.2) (fun _ => False) (fun p => R.length + 1 - p.2.2)
    (fun p hp => by
      obtain ⟨B, c, n⟩ := p
      obtain ⟨k, h1, h2⟩ := hp
      simp only at h1 h2 ⊢
      have mx := bl_max h h1
      have cp := h1.pos h
      have nl : n ≤ R.length := by
        rcases h2 with ⟨_, rfl⟩ | ⟨k', B', _, h3⟩
        · omega
        · exact (h3.pos h).2
      by_cases q : n < c
      · right
        refine ⟨?_, ?_⟩
        · generalize seqD b R O = sq at *
          generalize D.lst (blD R B) = bl at *
          simp [mx, q]
        · left
          have nx := h1.succ h
          have w1 := least_w1 h B (c : Nat) x6 x7 x8 x9 x10
          have nt := numbers_T_eq ((states R).map (sightN b R B)) (by rw [List.length_map, states_len]; have := h.top; omega)
          rw [nums_bl] at nt
          generalize (fun s => num (distinct ((states R).map (sightN b R B))) (sightN b R B s)) = B' at nx nt
          generalize (distinct ((states R).map (sightN b R B))).length = c' at nx
          refine ⟨(B', c', c), .inl ?_, ⟨k + 1, nx, .inr ⟨k, B, rfl, h1⟩⟩, by simp only; omega⟩
          generalize seqD b R O = sq at *
          generalize D.lst (blD R B) = bl at *
          generalize ((states R).map (sightN b R B)).map sD = sg at *
          simp [mx, w1, nt]
      · left
        refine ⟨?_, by omega⟩
        generalize seqD b R O = sq at *
        generalize D.lst (blD R B) = bl at *
        simp [mx, q])
    FUEL (B0, c0, 0) ⟨0, hB, .inl ⟨rfl, rfl⟩⟩ (by
      have : FUEL = 1099511627776 := rfl
      have := h.top
      show R.length + 1 - 0 < FUEL
      omega)
  rcases key with ⟨⟨B, c, n⟩, e, ⟨k, h1, h2⟩, h3⟩ | ⟨r, _, hr⟩
  · refine ⟨B, (n : Nat), e, ?_⟩
    try simp only at h1 h2 h3
    rcases h2 with ⟨_, rfl⟩ | ⟨k', B', rfl, h4⟩
    · have := h1.pos h
      omega
    · exact h4.fin_stop h h1 h3
  · exact hr.elim
variable {Q : List Int} {f : Int → Nat} {m : Nat} {δ' : Nat → Nat → Nat} {a' : Nat → Int} {B : Int → Nat}
/-- the leaders and the row of one turn -/
def ldSt (sq bl : D) (B : Int → Nat) (x2 x3 x4 x8 x9 : Cel) (p : List Int × List Nat) : Slots := [.val sq, .val bl, x2, x3, x4, .own (eNl p.2), .own (.dI (plE B 0 p.1)), .own (.lst (p.1.map D.int)), x8, x9, .no]
theorem least_w3 (h : Ok b R O) (F : FoldS b R O Q f m δ' a') (hB : Fin b R O B) (x2 x3 x4 x8 : Cel) {k : Nat} {L : List Int} (hL : LOk b Q f m δ' k 0 L) (hk : k < m) {x : Int} (hx : L[k]? = some x) :
    ∃ L', w_least_sequence_3 (ldSt (seqD b R O) (.lst (blD R B)) B x2 x3 x4 x8 (.val (.int (k : Nat))) (L, [])) = .nx (ldSt (seqD b R O) (.lst (blD R B)) B x2 x3 x4 x8 (.val (.int (k : Nat))) (L', (List.range b).map (δ' k))) ∧ LOk b Q f m δ' k b L' := by
  obtain ⟨xQ, fx⟩ := hL.at F hk (by omega) hx
  have hs := foldS_in h F xQ
  have fl := fld_seq b R O
  have b4 := h.b4
  have top := h.top
  have ml := (foldS_m h F).2
  obtain ⟨w1, w2, w3⟩ := forEgi (h := gN 10) (body := sWipe [10] (sSeq (sIf (nT (e2 dnin (e2 FL.getD (eB 1) (eB 10)) (eB 6))) (sSeq (sPut 6 (e2 FL.getD (eB 1) (eB 10)) (eN lenD (aCons (eB 7) aNil))) (sApp 7 (eV 10))) sNx) (sApp 5 (e2 dget (eB 6) (e2 FL.getD (eB 1) (eB 10)))))) (enc := fun j : Nat => D.int (stepN R x j))
    (fun p => ldSt (seqD b R O) (.lst (blD R B)) B x2 x3 x4 x8 (.val (.int (k : Nat))) p) (fun p j => (addL B p.1 (stepN R x j), p.2 ++ [δ' k j])) (fun j p => LOk b Q f m δ' k j p.1 ∧ p.2 = (List.range j).map (δ' k)) (List.range b) 0 (L, [])
    (fun n p j hj hp => by
      obtain ⟨rfl, hjb⟩ := range_get hj
      rw [Nat.zero_add] at hp
      obtain ⟨M, r⟩ := p
      obtain ⟨hM, hr⟩ := hp
      simp only at hM hr
      have hy := h.step hs hjb
      have gb : FL.getD (.lst (blD R B)) (.int (stepN R x j)) = .ok (.int ((B (stepN R x j) : Nat) : Int)) := bl_get hy
      obtain ⟨r1, r2, r3⟩ := row_step h F hB hM hk hjb xQ fx
      have nx := (hM.step h F hB hjb xQ fx).1
      have lM := (hM.pre F hk (by omega)).2
      have lr : r.length = j := by rw [hr]; simp
      have sz1 := sizeLt (n := M.length) (by omega)
      have sz2 := sizeLt (n := r.length) (by omega)
      have dn : ∀ (kvs : List (Int × D)) (i : Int), dnin (.int i) (.dI kvs) = .ok (.bl (!(lk kvs i).isSome)) := fun kvs i => rfl
      have dg : dget (.dI (plE B 0 (addL B M (stepN R x j)))) (.int ((B (stepN R x j) : Nat) : Int)) = .ok (.int ((δ' k j : Nat) : Int)) := by
        show (match lk (plE B 0 (addL B M (stepN R x j))) ((B (stepN R x j) : Nat) : Int) with | some v => Res.ok v | none => .stuck) = _
        rw [r2]
      refine ⟨(ldSt (seqD b R O) (.lst (blD R B)) B x2 x3 x4 x8 (.val (.int (k : Nat))) (M, r)).set 10 (.val (.int (stepN R x j))), by simp [ldSt], .inl ?_, ?_, ?_⟩
      · have ap : (r ++ [δ' k j]).map (fun d : Nat => D.int (d : Int)) = r.map (fun d : Nat => D.int (d : Int)) ++ [.int ((δ' k j : Nat) : Int)] := by rw [List.map_append]; rfl
        have l1 : (r.map fun d : Nat => D.int (d : Int)).length = r.length := List.length_map _
        have l2 : (M.map D.int).length = M.length := List.length_map _
        by_cases q : B (stepN R x j) ∈ M.map B
        · have e : addL B M (stepN R x j) = M := if_pos q
          rw [if_pos q] at r1
          have dn := dn (plE B 0 M) ((B (stepN R x j) : Nat) : Int)
          rw [r1] at dn
          rw [e] at dg ⊢
          simp only [ldSt, ap]
          generalize r.map (fun d : Nat => D.int (d : Int)) = rd at *
          generalize M.map D.int = md at *
          generalize plE B 0 M = pm at *
          generalize D.lst (blD R B) = bl at *
          generalize seqD b R O = sq at *
          generalize ((B (stepN R x j) : Nat) : Int) = u at *
          simp [gb, dn, dg, l1, sz2]
        · have e : addL B M (stepN R x j) = M ++ [stepN R x j] := if_neg q
          rw [if_neg q] at r1
          have dn := dn (plE B 0 M) ((B (stepN R x j) : Nat) : Int)
          rw [r1] at dn
          have dp := r3 q
          have am : (M ++ [stepN R x j]).map D.int = M.map D.int ++ [.int (stepN R x j)] := by rw [List.map_append]; rfl
          rw [e] at dg dp ⊢
          simp only [ldSt, ap, am]
          generalize r.map (fun d : Nat => D.int (d : Int)) = rd at *
          generalize M.map D.int = md at *
          generalize plE B 0 M = pm at *
          generalize plE B 0 (M ++ [stepN R x j]) = pm2 at *
          generalize D.lst (blD R B) = bl at *
          generalize seqD b R O = sq at *
          generalize ((B (stepN R x j) : Nat) : Int) = u at *
          simp [gb, dn, dg, dp, l1, l2, sz1, sz2]
      · rw [Nat.zero_add]
        exact nx
      · rw [Nat.zero_add, hr, List.range_succ, List.map_append]
        rfl)
    ⟨hL, rfl⟩
  rw [Nat.zero_add, List.length_range] at w2 w3
  generalize (List.range b).foldl (fun p j => (addL B p.1 (stepN R x j), p.2 ++ [δ' k j])) (L, []) = P at *
  obtain ⟨L', r⟩ := P
  simp only at w2 w3
  subst w3
  refine ⟨L', for_of ?_ w1, w2⟩
  have gl : FL.getD (.lst (L.map D.int)) (.int (k : Nat)) = .ok (.int x) := getD_map (enc := D.int) (by omega) (by rw [Int.toNat_natCast]; exact hx)
  have gr := row_get hs
  have rr : (eT (rowN R x)) = .tup ((List.range b).map fun j => D.int (stepN R x j)) := by rw [row_range h hs, eT, List.map_map]; rfl
  rw [rr] at gr
  simp only [ldSt]
  generalize (List.range b).map (fun j => D.int (stepN R x j)) = rd at *
  generalize L.map D.int = ld at *
  generalize D.lst (blD R B) = bl at *
  generalize seqD b R O = sq at *
  simp [fl, gl, gr]
theorem least_w4 (h : Ok b R O) (F : FoldS b R O Q f m δ' a') (hB : Fin b R O B) (x2 x3 x4 : Cel) :
    ∃ L, w_least_sequence_4 [.val (seqD b R O), .val (.lst (blD R B)), x2, x3, x4, .no, .own (.dI (plE B 0 [0])), .own (.lst [.int 0]), .own (.lst []), .val (.int 0), .no] =
      .nx [.val (seqD b R O), .val (.lst (blD R B)), x2, x3, x4, .no, .own (.dI (plE B 0 L)), .own (.lst (L.map D.int)), .own (.lst ((List.range m).map fun i => eNl ((List.range b).map (δ' i)))), .val (.int (m : Nat)), .no] ∧ LOk b Q f m δ' m 0 L := by
  have ml := (foldS_m h F).2
  have top := h.top
  have key := whileR (c := nT (e2 ltD (eB 9) (eN lenD (aCons (eB 7) aNil))))
    (body := sWipe [5, 10] (sSeq (sOwn 5 (eN mkLst aNil)) (sSeq (sWipe [10] w_least_sequence_3) (sSeq (sFrz 5 (sApp 8 (eV 5))) (sAug addD 9 (eC (.int 1)))))))
    (β := List Int × Nat) (fun p => [.val (seqD b R O), .val (.lst (blD R B)), x2, x3, x4, .no, .own (.dI (plE B 0 p.1)), .own (.lst (p.1.map D.int)), .own (.lst ((List.range p.2).map fun i => eNl ((List.range b).map (δ' i)))), .val (.int (p.2 : Nat)), .no])
    (fun p => LOk b Q f m δ' p.2 0 p.1 ∧ p.2 ≤ m) (fun p => m ≤ p.2) (fun _ => False) (fun p => m - p.2)
    (fun p hp => by
      obtain ⟨L, k⟩ := p
      obtain ⟨hL, hk⟩ := hp
      simp only at hL hk ⊢
      have ll := hL.len_le F
      by_cases q : k < m
      · have kl := hL.more F q
        right
        obtain ⟨x, hx⟩ : ∃ x, L[k]? = some x := ⟨_, List.getElem?_eq_getElem kl⟩
        obtain ⟨L', w3, hL'⟩ := least_w3 h F hB x2 x3 x4 (.own (.lst ((List.range k).map fun i => eNl ((List.range b).map (δ' i))))) hL q hx
        refine ⟨?_, .inl ⟨(L', k + 1), .inl ?_, ⟨hL'.next q, by omega⟩, by simp only; omega⟩⟩
        · generalize seqD b R O = sq at *
          generalize D.lst (blD R B) = bl at *
          simp [kl]
        · have sz := sizeLt (n := k) (by omega)
          have up : (List.range (k + 1)).map (fun i => eNl ((List.range b).map (δ' i))) = (List.range k).map (fun i => eNl ((List.range b).map (δ' i))) ++ [eNl ((List.range b).map (δ' k))] := by rw [List.range_succ, List.map_append]; rfl
          have l1 : ((List.range k).map fun i => eNl ((List.range b).map (δ' i))).length = k := by simp
          rw [up]
          simp only [ldSt] at w3
          generalize eNl ((List.range b).map (δ' k)) = rk at *
          generalize ((List.range k).map fun i => eNl ((List.range b).map (δ' i))) = rs at *
          generalize seqD b R O = sq at *
          generalize D.lst (blD R B) = bl at *
          have e0 : eNl [] = .lst [] := rfl
          rw [e0] at w3
          simp [w3, l1, sz]
      · left
        have : k = m := by omega
        subst this
        refine ⟨?_, by omega⟩
        have : L.length = k := by
          have e := congrArg List.length (hL.stop F)
          simpa using e
        generalize seqD b R O = sq at *
        generalize D.lst (blD R B) = bl at *
        simp [this])
    FUEL ([0], 0) ⟨LOk.start F, Nat.zero_le _⟩ (by
      have : FUEL = 1099511627776 := rfl
      show m - 0 < FUEL
      omega)
  rcases key with ⟨⟨L, k⟩, e, ⟨h1, h2⟩, h3⟩ | ⟨r, _, hr⟩
  · try simp only at h1 h2 h3
    have : k = m := by omega
    subst this
    exact ⟨L, e, h1⟩
  · exact hr.elim
/-- the program's least sequence is the one of any map onto kinds -/
theorem least_eq (h : Ok b R O) (hq : Quiet b R O) (F : FoldS b R O Q f m δ' a') : m_least_sequence [seqD b R O] = .ok (seqD b (tabS b δ' m) (outS a' m)) := by
  have fl := fld_seq b R O
  have top := h.top
  have n1 := numbers_I_eq O (by rw [h.olen]; omega)
  have e0 : numsD O = blD R (fun s => num (distinct ((states R).map (outF O))) (outF O s)) := by
    have := nums_bl (R := R) (outF O)
    rw [← outs_states h] at this
    rw [this, ← outs_states h]
  rw [e0] at n1
  have hB0 : Blk b R O 0 _ _ := Blk.zero
  generalize (fun s => num (distinct ((states R).map (outF O))) (outF O s)) = B0 at n1 hB0
  obtain ⟨B, c, w2, hB⟩ := least_w2 h .no .no .no .no .no hB0
  obtain ⟨L, w4, hL⟩ := least_w4 h F hB .no .no .no
  have g0 : FL.getD (.lst (blD R B)) (.int 0) = .ok (.int ((B 0 : Nat) : Int)) := bl_get h.in0
  have pl0 : plE B 0 [0] = [(((B 0 : Nat) : Int), .int 0)] := rfl
  rw [pl0] at w4
  have lo : L.map (outF O) = outS a' m := by
    have e := hL.stop F
    have : L.map (outF O) = (L.map f).map a' := by
      rw [List.map_map]
      exact List.map_congr_left fun x hx => F.acc x (hL.sub x hx)
    rw [this, e]
    rfl
  have lL : L.length ≤ 2000 := by
    have e := congrArg List.length (hL.stop F)
    rw [List.length_map, List.length_range] at e
    have := (foldS_m h F).2
    omega
  have c2 : ∀ x1 x2 x3 x5 x6 x8 x9 x10, c_least_sequence_2 [.val (seqD b R O), x1, x2, x3, .no, x5, x6, .own (.lst (L.map D.int)), x8, x9, x10] = .ok (eLi (outS a' m)) := fun x1 x2 x3 x5 x6 x8 x9 x10 => by
    have q := eLc_one (Γ := [.val (seqD b R O), x1, x2, x3, .no, x5, x6, .own (.lst (L.map D.int)), x8, x9, x10]) (i := 4) (its := iS (eB 7)) (f := e2 FL.getD (e1 (fldD 21 2) (eB 0)) (eB 4)) (enc := D.int) (φ := fun x => D.int (outF O x)) L (by simp) (by omega) (by simp) fun x hx => by
      have ou := h.out (foldS_in h F (hL.sub x hx))
      generalize seqD b R O = sq at *
      generalize eT O = tO at *
      simp [fl, ou, outF]
    rw [c_least_sequence_2, q, ← lo, eLi, List.map_map]
    rfl
  have ini := init_eq (least_ok h F) (least_quiet h F hq) (v := .lst ((tabS b δ' m).map eLi)) (o := eLi (outS a' m)) ⟨⟨eLi, .inr rfl, .inl rfl⟩, .inr rfl⟩
  have rw_ : (tabS b δ' m).map eLi = (List.range m).map fun i => eNl ((List.range b).map (δ' i)) := by
    unfold tabS
    rw [List.map_map]
    refine List.map_congr_left fun i _ => ?_
    show eLi ((List.range b).map fun j => ((δ' i j : Nat) : Int)) = _
    rw [eLi, List.map_map, eNl, List.map_map]
    rfl
  rw [rw_] at ini
  have l0 : mkLst [.int 0] = .ok (.lst [.int 0]) := mkLst_ok (by simp)
  generalize ((List.range m).map fun i => eNl ((List.range b).map (δ' i))) = rs at *
  generalize eLi (outS a' m) = os at *
  generalize seqD b R O = sq at *
  generalize seqD b (tabS b δ' m) (outS a' m) = sq2 at *
  generalize D.lst (blD R B) = bl at *
  generalize D.lst (blD R B0) = bl0 at *
  generalize eT O = tO at *
  simp [m_least_sequence, g_least_sequence, fl, n1, w2, g0, l0, w4, c2, ini]
end
end K22

namespace K22
open PySem L2 FL PM SQ
/-! numbers and least sequences the law's way -/
theorem law_numbers_I_eq (xs : List Int) (hl : xs.length ≤ 100000) : m_law_numbers_I [.lst (xs.map D.int)] = .ok (.lst (numsD xs)) := by
  obtain ⟨Γ', h1, h2⟩ := forK (i := 3) (enc := D.int) (body := sWipe [3] (sSeq (sIf (nT (e2 dnin (eB 3) (eB 1))) (sPut 1 (eB 3) (eN lenK (aCons (eB 1) aNil))) sNx) (sApp 2 (e2 dget (eB 1) (eB 3)))))
    (fun k Γ => Γ = [.val (.lst (xs.map D.int)), .own (.dI (keyE id 0 ((xs.take k).foldl addK []))), .own (.lst ((xs.take k).map fun x => D.int ((num (distinct xs) x : Nat) : Int))), .no]) xs 0 _
    (fun n x Γ hx hJ => by
      rw [Nat.zero_add] at hJ ⊢
      subst hJ
      have hj := (List.getElem?_eq_some_iff.mp hx).1
      obtain ⟨t1, t2⟩ := num_take hx
      have fe : (xs.take (n + 1)).map (fun x => D.int ((num (distinct xs) x : Nat) : Int)) = (xs.take n).map (fun x => D.int ((num (distinct xs) x : Nat) : Int)) ++ [.int ((num (distinct xs) x : Nat) : Int)] := by
        rw [List.take_add_one, hx, List.map_append]; rfl
      rw [← t1, fe]
      rw [← t1] at t2
      have fl : ((xs.take n).map fun x => D.int ((num (distinct xs) x : Nat) : Int)).length = n := by simp; omega
      rw [← t2]
      obtain ⟨ks, hks⟩ : ∃ ks, (xs.take n).foldl addK [] = ks := ⟨_, rfl⟩
      have kl : ks.length ≤ n := by
        have := fold_len (xs.take n) ([] : List Int)
        rw [hks] at this
        simp at this
        omega
      rw [hks] at t2 ⊢
      have sz := sizeLt (n := ks.length) (by omega)
      have sz2 := sizeLt (n := n) (by omega)
      have l := keyE_lk (key := (id : Int → Int)) (fun a b h => h) ks 0 x
      have l2 := keyE_lk (key := (id : Int → Int)) (fun a b h => h) (addK ks x) 0 x
      rw [if_pos (addK_mem ks x), Nat.zero_add] at l2
      have ll := keyE_len (key := (id : Int → Int)) ks 0
      have l : lk (keyE id 0 ks) x = _ := l
      have l2 : lk (keyE id 0 (addK ks x)) x = _ := l2
      have dn : dnin (.int x) (.dI (keyE id 0 ks)) = .ok (.bl (!(lk (keyE id 0 ks) x).isSome)) := rfl
      have dg : dget (.dI (keyE id 0 (addK ks x))) (.int x) = .ok (.int ((num (addK ks x) x : Nat) : Int)) := by
        show (match lk (keyE id 0 (addK ks x)) x with | some v => Res.ok v | none => .stuck) = _
        rw [l2]
      generalize ((xs.take n).map fun x => D.int ((num (distinct xs) x : Nat) : Int)) = fd at *
      refine ⟨by simp, _, .inl ?_, rfl⟩
      by_cases q : x ∈ ks
      · rw [if_pos q] at l
        rw [l] at dn
        rw [addK_in q] at dg ⊢
        generalize xs.map D.int = t at *
        generalize keyE id 0 ks = kk at *
        generalize ((num ks x : Nat) : Int) = v at *
        simp [dn, dg, fl, sz2]
      · rw [if_neg q] at l
        rw [l] at dn
        have dp : dput (.dI (keyE id 0 ks)) (.int x) (.int (ks.length : Nat)) = .ok (.dI (keyE id 0 (addK ks x))) := by
          show (if (keyE id 0 ks).length < sizeLine then Res.ok (D.dI (putD (keyE id 0 ks) x (.int (ks.length : Nat)))) else .stuck) = _
          rw [if_pos (by rw [ll]; exact sz), addK_out q, keyE_snoc]
          unfold putD
          rw [lk_any, l]
          rfl
        rw [← ll] at dp
        generalize xs.map D.int = t at *
        generalize keyE id 0 (addK ks x) = kk2 at *
        generalize keyE id 0 ks = kk at *
        generalize ((num (addK ks x) x : Nat) : Int) = v at *
        simp [dn, dg, dp, fl, sz2])
    rfl
  subst h2
  rw [Nat.zero_add, List.take_length] at h1
  have w : w_law_numbers_I_1 [.val (.lst (xs.map D.int)), .own (.dI []), .own (.lst []), .no] = _ := for_of (by simp) h1
  show _ = Res.ok (D.lst (xs.map fun x => D.int ((num (distinct xs) x : Nat) : Int)))
  generalize (xs.map fun x => D.int ((num (distinct xs) x : Nat) : Int)) = o at *
  simp [m_law_numbers_I, g_law_numbers_I, w]
theorem law_numbers_T_eq (xs : List (Nat × List Nat)) (hl : xs.length ≤ 100000) : m_law_numbers_T [.lst (xs.map sD)] = .ok (.lst (numsD xs)) := by
  obtain ⟨Γ', h1, h2⟩ := forK (i := 3) (enc := sD) (body := sWipe [3] (sSeq (sIf (nT (e2 nninD (eB 3) (eB 1))) (sPutN 1 (eV 3) (eN lenN (aCons (eB 1) aNil))) sNx) (sApp 2 (e2 ngetD (eB 1) (eB 3)))))
    (fun k Γ => Γ = [.val (.lst (xs.map sD)), .own (.dN (keyE kS 0 ((xs.take k).foldl addK []))), .own (.lst ((xs.take k).map fun x => D.int ((num (distinct xs) x : Nat) : Int))), .no]) xs 0 _
    (fun n x Γ hx hJ => by
      rw [Nat.zero_add] at hJ ⊢
      subst hJ
      have hj := (List.getElem?_eq_some_iff.mp hx).1
      obtain ⟨t1, t2⟩ := num_take hx
      have fe : (xs.take (n + 1)).map (fun x => D.int ((num (distinct xs) x : Nat) : Int)) = (xs.take n).map (fun x => D.int ((num (distinct xs) x : Nat) : Int)) ++ [.int ((num (distinct xs) x : Nat) : Int)] := by
        rw [List.take_add_one, hx, List.map_append]; rfl
      rw [← t1, fe]
      rw [← t1] at t2
      have fl : ((xs.take n).map fun x => D.int ((num (distinct xs) x : Nat) : Int)).length = n := by simp; omega
      rw [← t2]
      obtain ⟨ks, hks⟩ : ∃ ks, (xs.take n).foldl addK [] = ks := ⟨_, rfl⟩
      have kl : ks.length ≤ n := by
        have := fold_len (xs.take n) ([] : List (Nat × List Nat))
        rw [hks] at this
        simp at this
        omega
      rw [hks] at t2 ⊢
      have sz := sizeLt (n := ks.length) (by omega)
      have sz2 := sizeLt (n := n) (by omega)
      have l := keyE_lk kS_inj ks 0 x
      have l2 := keyE_lk kS_inj (addK ks x) 0 x
      rw [if_pos (addK_mem ks x), Nat.zero_add] at l2
      have ll := keyE_len (key := kS) ks 0
      have nt := nkT_sD x
      have dn : nninD (sD x) (.dN (keyE kS 0 ks)) = .ok (.bl (!(lk (keyE kS 0 ks) (kS x)).isSome)) := by
        unfold nninD
        rw [nlk_sD]
      have dg : ngetD (.dN (keyE kS 0 (addK ks x))) (sD x) = .ok (.int ((num (addK ks x) x : Nat) : Int)) := by
        unfold ngetD
        rw [nlk_sD, l2]
      generalize ((xs.take n).map fun x => D.int ((num (distinct xs) x : Nat) : Int)) = fd at *
      refine ⟨by simp, _, .inl ?_, rfl⟩
      by_cases q : x ∈ ks
      · rw [if_pos q] at l
        rw [l] at dn
        rw [addK_in q] at dg ⊢
        generalize sD x = dx at *
        generalize xs.map sD = t at *
        generalize keyE kS 0 ks = kk at *
        generalize ((num ks x : Nat) : Int) = v at *
        simp [dn, dg, fl, sz2]
      · rw [if_neg q] at l
        rw [l] at dn
        have dp : nput (.dN (keyE kS 0 ks)) (sD x) (.int (ks.length : Nat)) = .ok (.dN (keyE kS 0 (addK ks x))) := by
          unfold nput
          rw [nt]
          show (if (keyE kS 0 ks).length < sizeLine then Res.ok (D.dN (putD (keyE kS 0 ks) (kS x) (.int (ks.length : Nat)))) else .stuck) = _
          rw [if_pos (by rw [ll]; exact sz), addK_out q, keyE_snoc]
          unfold putD
          rw [lk_any, l]
          rfl
        rw [← ll] at dp
        generalize sD x = dx at *
        generalize xs.map sD = t at *
        generalize keyE kS 0 (addK ks x) = kk2 at *
        generalize keyE kS 0 ks = kk at *
        generalize ((num (addK ks x) x : Nat) : Int) = v at *
        simp [dn, dg, dp, fl, sz2])
    rfl
  subst h2
  rw [Nat.zero_add, List.take_length] at h1
  have w : w_law_numbers_T_1 [.val (.lst (xs.map sD)), .own (.dN []), .own (.lst []), .no] = _ := for_of (by simp) h1
  show _ = Res.ok (D.lst (xs.map fun x => D.int ((num (distinct xs) x : Nat) : Int)))
  generalize (xs.map fun x => D.int ((num (distinct xs) x : Nat) : Int)) = o at *
  simp [m_law_numbers_T, g_law_numbers_T, w]
section
variable {b : Nat} {R : List (List Int)} {O : List Int} {Q : List Int} {f : Int → Nat} {m : Nat} {δ' : Nat → Nat → Nat} {a' : Nat → Int} {B : Int → Nat}
theorem law_sights (h : Ok b R O) (B : Int → Nat) (x1 x3 x4 x5 x6 x7 x8 x9 : Cel) :
    c_law_least_2 [.val (eTT R), x1, .val (.lst (blD R B)), x3, x4, x5, x6, x7, x8, x9, .no, .no] = .ok (.lst (((states R).map (sightN b R B)).map sD)) := by
  have top := h.top
  have lT : lenD [eTT R] = .ok (.int R.length) := by show Res.ok (D.int ((R.map eT).length : Nat)) = _; rw [List.length_map]
  have q := eLc_one (Γ := [.val (eTT R), x1, .val (.lst (blD R B)), x3, x4, x5, x6, x7, x8, x9, .no, .no]) (i := 11) (its := iN asR1 (aCons (eN lenD (aCons (eB 0) aNil)) aNil)) (f := eN mkTup (aCons (e2 FL.getD (eB 2) (eB 11)) (aCons (eN tupD (aCons c_law_least_1 aNil)) aNil)))
    (enc := fun i : Nat => D.int (i : Int)) (φ := fun i : Nat => sD (sightN b R B i)) (List.range R.length) (iR1_nat R.length (by omega) (by
      generalize eTT R = tR at *
      simp [lT])) (by simp; omega) (by simp) fun i hi => by
      rw [List.mem_range] at hi
      have hs : Rg R (i : Nat) := ⟨by omega, by omega⟩
      have g1 : FL.getD (.lst (blD R B)) (.int (i : Nat)) = .ok (.int ((B i : Nat) : Int)) := bl_get hs
      have gr := row_get hs
      have c1 : c_law_least_1 [.val (eTT R), x1, .val (.lst (blD R B)), x3, x4, x5, x6, x7, x8, x9, .no, .val (.int (i : Nat))] = .ok (.lst ((rowN R i).map fun x => D.int ((B x : Nat) : Int))) :=
        eLc_one (enc := D.int) (φ := fun x => D.int ((B x : Nat) : Int)) (rowN R i) (by
          generalize eTT R = tR at *
          simp [gr]) (by rw [h.rlen hs]; have := h.b4; omega) (by simp) fun x hx => by
          have g2 : FL.getD (.lst (blD R B)) (.int x) = .ok (.int ((B x : Nat) : Int)) := bl_get ((h.rows _ (row_mem hs)).2 x hx)
          generalize D.lst (blD R B) = bl at *
          simp [g2]
      have ee : eNt ((List.range b).map fun j => B (stepN R i j)) = .tup ((rowN R i).map fun x => D.int ((B x : Nat) : Int)) := by
        rw [row_range h hs, List.map_map, eNt, List.map_map]
        rfl
      have m2 : ∀ x y : D, mkTup [x, y] = .ok (.tup [x, y]) := fun x y => mkTup_ok (by simp)
      show _ = Res.ok (D.tup [.int ((B i : Nat) : Int), eNt ((List.range b).map fun j => B (stepN R i j))])
      rw [ee]
      generalize (rowN R i).map (fun x => D.int ((B x : Nat) : Int)) = rr at *
      generalize D.lst (blD R B) = bl at *
      generalize eTT R = tR at *
      simp [g1, c1, m2]
  rw [c_law_least_2, q, states, List.map_map, List.map_map]
  rfl
theorem law_least_w1 (h : Ok b R O) (x1 x5 x6 x7 x8 x9 : Cel) {B0 : Int → Nat} {c0 : Nat} (hB : Blk b R O 0 B0 c0) :
    ∃ B, w_law_least_1 [.val (eTT R), x1, .val (.lst (blD R B0)), .no, .no, x5, x6, x7, x8, x9, .no, .no] = .nx [.val (eTT R), x1, .val (.lst (blD R B)), .no, .no, x5, x6, x7, x8, x9, .no, .no] ∧ Fin b R O B := by
  have top := h.top
  have lT : lenD [eTT R] = .ok (.int R.length) := by show Res.ok (D.int ((R.map eT).length : Nat)) = _; rw [List.length_map]
  obtain ⟨Γ', h1, h2⟩ := forK (i := 3) (enc := fun i : Nat => D.int (i : Int)) (body := sWipe [3, 4] (sSeq (sVal 4 c_law_least_2) (sVal 2 (eN m_law_numbers_T (aCons (eV 4) aNil)))))
    (fun k Γ => ∃ B c, Γ = [.val (eTT R), x1, .val (.lst (blD R B)), .no, .no, x5, x6, x7, x8, x9, .no, .no] ∧ Blk b R O k B c) (List.range R.length) 0 _
    (fun n x Γ hx hJ => by
      rw [Nat.zero_add] at hJ ⊢
      obtain ⟨B, c, rfl, hB⟩ := hJ
      have sg := law_sights h B x1 (.val (.int (x : Nat))) .no x5 x6 x7 x8 x9
      have nt := law_numbers_T_eq ((states R).map (sightN b R B)) (by rw [List.length_map, states_len]; omega)
      rw [nums_bl] at nt
      have nx := hB.succ h
      generalize (fun s => num (distinct ((states R).map (sightN b R B))) (sightN b R B s)) = B' at nx nt
      refine ⟨by simp, _, .inl ?_, B', _, rfl, nx⟩
      generalize ((states R).map (sightN b R B)).map sD = sl at *
      generalize D.lst (blD R B) = bl at *
      generalize eTT R = tR at *
      simp [sg, nt])
    ⟨B0, c0, rfl, hB⟩
  obtain ⟨B, c, rfl, hB'⟩ := h2
  rw [Nat.zero_add, List.length_range] at hB'
  exact ⟨B, for_of (iR1_nat R.length (by omega) (by
    generalize eTT R = tR at *
    simp [lT])) h1, hB'.fin_all h⟩
def llSt (b : Nat) (R : List (List Int)) (O : List Int) (B : Int → Nat) (x7 x8 : Cel) (p : List Int × List Nat) : Slots := [.val (eTT R), .val (eT O), .val (.lst (blD R B)), .no, .no, .own (.lst (p.1.map D.int)), .own (.dI (plE B 0 p.1)), x7, x8, .own (eNl p.2), .no, .no]
theorem law_least_w2 (h : Ok b R O) (F : FoldS b R O Q f m δ' a') (hB : SQ.Fin b R O B) (x7 : Cel) {k : Nat} {L : List Int} (hL : LOk b Q f m δ' k 0 L) (hk : k < m) {x : Int} (hx : L[k]? = some x) :
    ∃ L', w_law_least_2 (llSt b R O B x7 (.val (.int (k : Nat))) (L, [])) = .nx (llSt b R O B x7 (.val (.int (k : Nat))) (L', (List.range b).map (δ' k))) ∧ LOk b Q f m δ' k b L' := by
  obtain ⟨xQ, fx⟩ := hL.at F hk (by omega) hx
  have hs := foldS_in h F xQ
  have b4 := h.b4
  have top := h.top
  have ml := (foldS_m h F).2
  obtain ⟨w1, w2, w3⟩ := forEgi (h := gN 10) (body := sWipe [10] (sSeq (sIf (nT (e2 dnin (e2 FL.getD (eB 2) (eB 10)) (eB 6))) (sSeq (sPut 6 (e2 FL.getD (eB 2) (eB 10)) (eN lenD (aCons (eB 5) aNil))) (sApp 5 (eV 10))) sNx) (sApp 9 (e2 dget (eB 6) (e2 FL.getD (eB 2) (eB 10)))))) (enc := fun j : Nat => D.int (stepN R x j))
    (fun p => llSt b R O B x7 (.val (.int (k : Nat))) p) (fun p j => (addL B p.1 (stepN R x j), p.2 ++ [δ' k j])) (fun j p => LOk b Q f m δ' k j p.1 ∧ p.2 = (List.range j).map (δ' k)) (List.range b) 0 (L, [])
    (fun n p j hj hp => by
      obtain ⟨rfl, hjb⟩ := range_get hj
      rw [Nat.zero_add] at hp
      obtain ⟨M, r⟩ := p
      obtain ⟨hM, hr⟩ := hp
      simp only at hM hr
      have hy := h.step hs hjb
      have gb : FL.getD (.lst (blD R B)) (.int (stepN R x j)) = .ok (.int ((B (stepN R x j) : Nat) : Int)) := bl_get hy
      obtain ⟨r1, r2, r3⟩ := row_step h F hB hM hk hjb xQ fx
      have nx := (hM.step h F hB hjb xQ fx).1
      have lM := (hM.pre F hk (by omega)).2
      have lr : r.length = j := by rw [hr]; simp
      have sz1 := sizeLt (n := M.length) (by omega)
      have sz2 := sizeLt (n := r.length) (by omega)
      have dn : ∀ (kvs : List (Int × D)) (i : Int), dnin (.int i) (.dI kvs) = .ok (.bl (!(lk kvs i).isSome)) := fun kvs i => rfl
      have dg : dget (.dI (plE B 0 (addL B M (stepN R x j)))) (.int ((B (stepN R x j) : Nat) : Int)) = .ok (.int ((δ' k j : Nat) : Int)) := by
        show (match lk (plE B 0 (addL B M (stepN R x j))) ((B (stepN R x j) : Nat) : Int) with | some v => Res.ok v | none => .stuck) = _
        rw [r2]
      refine ⟨(llSt b R O B x7 (.val (.int (k : Nat))) (M, r)).set 10 (.val (.int (stepN R x j))), by simp [llSt], .inl ?_, ?_, ?_⟩
      · have ap : (r ++ [δ' k j]).map (fun d : Nat => D.int (d : Int)) = r.map (fun d : Nat => D.int (d : Int)) ++ [.int ((δ' k j : Nat) : Int)] := by rw [List.map_append]; rfl
        have l1 : (r.map fun d : Nat => D.int (d : Int)).length = r.length := List.length_map _
        have l2 : (M.map D.int).length = M.length := List.length_map _
        by_cases q : B (stepN R x j) ∈ M.map B
        · have e : addL B M (stepN R x j) = M := if_pos q
          rw [if_pos q] at r1
          have dn := dn (plE B 0 M) ((B (stepN R x j) : Nat) : Int)
          rw [r1] at dn
          rw [e] at dg ⊢
          simp only [llSt, ap]
          generalize r.map (fun d : Nat => D.int (d : Int)) = rd at *
          generalize M.map D.int = md at *
          generalize plE B 0 M = pm at *
          generalize D.lst (blD R B) = bl at *
          generalize eTT R = tR at *
          generalize eT O = tO at *
          generalize ((B (stepN R x j) : Nat) : Int) = u at *
          simp [gb, dn, dg, l1, sz2]
        · have e : addL B M (stepN R x j) = M ++ [stepN R x j] := if_neg q
          rw [if_neg q] at r1
          have dn := dn (plE B 0 M) ((B (stepN R x j) : Nat) : Int)
          rw [r1] at dn
          have dp := r3 q
          have am : (M ++ [stepN R x j]).map D.int = M.map D.int ++ [.int (stepN R x j)] := by rw [List.map_append]; rfl
          rw [e] at dg dp ⊢
          simp only [llSt, ap, am]
          generalize r.map (fun d : Nat => D.int (d : Int)) = rd at *
          generalize M.map D.int = md at *
          generalize plE B 0 M = pm at *
          generalize plE B 0 (M ++ [stepN R x j]) = pm2 at *
          generalize D.lst (blD R B) = bl at *
          generalize eTT R = tR at *
          generalize eT O = tO at *
          generalize ((B (stepN R x j) : Nat) : Int) = u at *
          simp [gb, dn, dg, dp, l1, l2, sz1, sz2]
      · rw [Nat.zero_add]
        exact nx
      · rw [Nat.zero_add, hr, List.range_succ, List.map_append]
        rfl)
    ⟨hL, rfl⟩
  rw [Nat.zero_add, List.length_range] at w2 w3
  generalize (List.range b).foldl (fun p j => (addL B p.1 (stepN R x j), p.2 ++ [δ' k j])) (L, []) = P at *
  obtain ⟨L', r⟩ := P
  simp only at w2 w3
  subst w3
  refine ⟨L', for_of ?_ w1, w2⟩
  have gl : FL.getD (.lst (L.map D.int)) (.int (k : Nat)) = .ok (.int x) := getD_map (enc := D.int) (by omega) (by rw [Int.toNat_natCast]; exact hx)
  have gr := row_get hs
  have rr : (eT (rowN R x)) = .tup ((List.range b).map fun j => D.int (stepN R x j)) := by rw [row_range h hs, eT, List.map_map]; rfl
  rw [rr] at gr
  simp only [llSt]
  generalize (List.range b).map (fun j => D.int (stepN R x j)) = rd at *
  generalize L.map D.int = ld at *
  generalize D.lst (blD R B) = bl at *
  generalize eTT R = tR at *
  generalize eT O = tO at *
  simp [gl, gr]
theorem law_least_w3 (h : Ok b R O) (F : FoldS b R O Q f m δ' a') (hB : SQ.Fin b R O B) :
    ∃ L, w_law_least_3 [.val (eTT R), .val (eT O), .val (.lst (blD R B)), .no, .no, .own (.lst [.int 0]), .own (.dI (plE B 0 [0])), .own (.lst []), .no, .no, .no, .no] =
      .nx [.val (eTT R), .val (eT O), .val (.lst (blD R B)), .no, .no, .own (.lst (L.map D.int)), .own (.dI (plE B 0 L)), .own (.lst ((tabS b δ' m).map eT)), .no, .no, .no, .no] ∧ LOk b Q f m δ' m 0 L := by
  have ml := (foldS_m h F).2
  have top := h.top
  have lT : lenD [eTT R] = .ok (.int R.length) := by show Res.ok (D.int ((R.map eT).length : Nat)) = _; rw [List.length_map]
  obtain ⟨Γ', h1, h2⟩ := forK (i := 8) (enc := fun i : Nat => D.int (i : Int)) (body := sWipe [8, 9, 10] (sWipe [9, 10] (sIf (nT (e2 ltD (eB 8) (eN lenD (aCons (eB 5) aNil)))) (sSeq (sOwn 9 (eN mkLst aNil)) (sSeq (sWipe [10] w_law_least_2) (sApp 7 (eN tupD (aCons (eB 9) aNil))))) sNx)))
    (fun k Γ => ∃ L n, Γ = [.val (eTT R), .val (eT O), .val (.lst (blD R B)), .no, .no, .own (.lst (L.map D.int)), .own (.dI (plE B 0 L)), .own (.lst ((tabS b δ' n).map eT)), .no, .no, .no, .no] ∧ LOk b Q f m δ' n 0 L ∧ n = min k m) (List.range R.length) 0 _
    (fun n x Γ hx hJ => by
      obtain ⟨rfl, hxl⟩ := range_get hx
      rw [Nat.zero_add] at hJ ⊢
      obtain ⟨L, n, rfl, hL, hn⟩ := hJ
      have ll := hL.len_le F
      refine ⟨by simp, ?_⟩
      by_cases q : x < m
      · have e : n = x := by omega
        subst e
        have kl := hL.more F q
        obtain ⟨y, hy⟩ : ∃ y, L[n]? = some y := ⟨_, List.getElem?_eq_getElem kl⟩
        obtain ⟨L', w2, hL'⟩ := law_least_w2 h F hB (.own (.lst ((tabS b δ' n).map eT))) hL q hy
        have sz := sizeLt (n := n) (by omega)
        have up : (tabS b δ' (n + 1)).map eT = (tabS b δ' n).map eT ++ [eNt ((List.range b).map (δ' n))] := by
          unfold tabS
          rw [List.range_succ, List.map_append, List.map_append]
          congr 1
          show [eT ((List.range b).map fun j => ((δ' n j : Nat) : Int))] = _
          rw [eT, List.map_map, eNt, List.map_map]
          rfl
        have l1 : ((tabS b δ' n).map eT).length = n := by rw [List.length_map, tabS_len]
        refine ⟨[.val (eTT R), .val (eT O), .val (.lst (blD R B)), .no, .no, .own (.lst (L'.map D.int)), .own (.dI (plE B 0 L')), .own (.lst ((tabS b δ' (n + 1)).map eT)), .no, .no, .no, .no], .inl ?_, L', n + 1, rfl, hL'.next q, by omega⟩
        rw [up]
        have tt : ∀ l : List Nat, tupD [eNl l] = .ok (eNt l) := fun l => rfl
        have tt := tt ((List.range b).map (δ' n))
        simp only [llSt] at w2
        have e0 : eNl [] = .lst [] := rfl
        rw [e0] at w2
        generalize eNl ((List.range b).map (δ' n)) = rk at *
        generalize eNt ((List.range b).map (δ' n)) = rk2 at *
        generalize ((tabS b δ' n).map eT) = rs at *
        generalize eTT R = tR at *
        generalize eT O = tO at *
        generalize D.lst (blD R B) = bl at *
        have lL : (L.map D.int).length = L.length := List.length_map _
        generalize L.map D.int = ld at *
        simp [lL, kl, w2, l1, sz, tt]
      · have e : n = m := by omega
        subst e
        have lL : (L.map D.int).length = n := by
          have e := congrArg List.length (hL.stop F)
          simpa using e
        refine ⟨_, .inl ?_, L, n, rfl, hL, by omega⟩
        generalize ((tabS b δ' n).map eT) = rs at *
        generalize eTT R = tR at *
        generalize eT O = tO at *
        generalize D.lst (blD R B) = bl at *
        generalize L.map D.int = ld at *
        simp [lL, q])
    ⟨[0], 0, rfl, LOk.start F, by omega⟩
  obtain ⟨L, n, rfl, hL, hn⟩ := h2
  rw [Nat.zero_add, List.length_range] at hn
  have e : n = m := by omega
  subst e
  exact ⟨L, for_of (iR1_nat R.length (by omega) (by
    generalize eTT R = tR at *
    simp [lT])) h1, hL⟩
theorem law_least_eq (h : Ok b R O) (F : FoldS b R O Q f m δ' a') : m_law_least [eTT R, eT O] = .ok (.tup [eTT (tabS b δ' m), eT (outS a' m)]) := by
  have top := h.top
  have n1 := law_numbers_I_eq O (by rw [h.olen]; omega)
  have e0 : numsD O = blD R (fun s => num (distinct ((states R).map (outF O))) (outF O s)) := by
    have := nums_bl (R := R) (outF O)
    rw [← outs_states h] at this
    rw [this, ← outs_states h]
  rw [e0] at n1
  have hB0 : Blk b R O 0 _ _ := Blk.zero
  generalize (fun s => num (distinct ((states R).map (outF O))) (outF O s)) = B0 at n1 hB0
  obtain ⟨B, w2, hB⟩ := law_least_w1 h (.val (eT O)) .no .no .no .no .no hB0
  obtain ⟨L, w4, hL⟩ := law_least_w3 h F hB
  have g0 : FL.getD (.lst (blD R B)) (.int 0) = .ok (.int ((B 0 : Nat) : Int)) := bl_get h.in0
  have pl0 : plE B 0 [0] = [(((B 0 : Nat) : Int), .int 0)] := rfl
  rw [pl0] at w4
  have lo : L.map (outF O) = outS a' m := by
    have e := hL.stop F
    have : L.map (outF O) = (L.map f).map a' := by
      rw [List.map_map]
      exact List.map_congr_left fun x hx => F.acc x (hL.sub x hx)
    rw [this, e]
    rfl
  have lL : L.length ≤ 2000 := by
    have e := congrArg List.length (hL.stop F)
    rw [List.length_map, List.length_range] at e
    have := (foldS_m h F).2
    omega
  have c3 : ∀ x0 x2 x3 x4 x6 x7 x8 x9 x10, c_law_least_3 [x0, .val (eT O), x2, x3, x4, .own (.lst (L.map D.int)), x6, x7, x8, x9, x10, .no] = .ok (.lst ((outS a' m).map D.int)) := fun x0 x2 x3 x4 x6 x7 x8 x9 x10 => by
    have q := eLc_one (Γ := [x0, .val (eT O), x2, x3, x4, .own (.lst (L.map D.int)), x6, x7, x8, x9, x10, .no]) (i := 11) (its := iS (eB 5)) (f := e2 FL.getD (eB 1) (eB 11)) (enc := D.int) (φ := fun x => D.int (outF O x)) L (by simp) (by omega) (by simp) fun x hx => by
      have ou := h.out (foldS_in h F (hL.sub x hx))
      generalize eT O = tO at *
      simp [ou, outF]
    rw [c_law_least_3, q, ← lo, List.map_map]
    rfl
  have l0 : mkLst [.int 0] = .ok (.lst [.int 0]) := mkLst_ok (by simp)
  have lo2 : listD [eT O] = .ok (.lst (O.map D.int)) := rfl
  have m2 : ∀ x y : D, mkTup [x, y] = .ok (.tup [x, y]) := fun x y => mkTup_ok (by simp)
  show _ = Res.ok (D.tup [.tup ((tabS b δ' m).map eT), .tup ((outS a' m).map D.int)])
  generalize (outS a' m).map D.int = os at *
  generalize (tabS b δ' m).map eT = ts at *
  generalize D.lst (blD R B) = bl at *
  generalize D.lst (blD R B0) = bl0 at *
  generalize eTT R = tR at *
  generalize eT O = tO at *
  generalize O.map D.int = lO at *
  simp [m_law_least, g_law_least, lo2, n1, w2, g0, l0, w4, c3, m2]
end
end K22

namespace K22
open PySem L2 FL PM SQ
/-! members -/
theorem digits_below_eq {b : Nat} (hb : 2 ≤ b ∧ b ≤ 4) (n : Nat) (hl : (dg b n).length ≤ 10000) : m_digits_below [.int n, .int b] = .ok (eNl (dg b n)) := by
  have w := whileE (c := nT (e2 gtD (eB 0) (eC (.int 0)))) (body := sSeq (sApp 2 (e2 modD (eB 0) (eB 1))) (sVal 0 (e2 fdivD (eB 0) (eB 1)))) (β := Nat × List Nat)
    (fun p => [.val (.int p.1), .val (.int b), .own (eNl p.2)]) (fun p q => q = (0, p.2 ++ (dg b p.1).reverse) ∧ (dg b p.1).length + p.2.length ≤ 10000) (fun p => (dg b p.1).length) (n, []) (0, (dg b n).reverse) ⟨by simp, by simpa using hl⟩
    (fun p hp => by
      obtain ⟨k, f⟩ := p
      obtain ⟨h1, h2⟩ := hp
      simp only at h1 h2
      by_cases q : k = 0
      · left
        subst q
        refine ⟨by simp, ?_⟩
        rw [h1, dg_zero]
        simp
      · right
        have hk : 0 < k := by omega
        have hk' : (0 : Int) < k := by omega
        have st := dg_step hb.1 hk
        have b0 : (0 : Int) < b := by omega
        have sz := sizeLt (n := f.length) (by omega)
        have fd := x_fdiv (k : Int) b (by omega)
        refine ⟨by simp [hk], (k / b, f ++ [k % b]), .inl ?_, ⟨?_, ?_⟩, ?_⟩
        · have q1 : ((k / b : Nat) : Int) = (k : Int) / b := rfl
          have q2 : ((k % b : Nat) : Int) = (k : Int) % b := rfl
          have b0' : 0 < b := by omega
          have b1 : ¬ (b : Int) = 0 := by omega
          simp [fd, sz, b0, b0', b1]
        · rw [h1, dg_pos hb.1 hk]
          simp
        · simp only [List.length_append, List.length_singleton]
          omega
        · show (dg b (k / b)).length < (dg b k).length
          omega)
    FUEL (by
      have : FUEL = 1099511627776 := rfl
      show (dg b n).length < FUEL
      omega)
  have w' : w_digits_below_1 [.val (.int n), .val (.int b), .own (.lst [])] = .nx [.val (.int (0 : Nat)), .val (.int b), .own (eNl (dg b n).reverse)] := w
  have rv : revL (eNl (dg b n).reverse) = .ok (eNl (dg b n)) := by
    show Res.ok (D.lst ((dg b n).reverse.map fun d : Nat => D.int (d : Int)).reverse) = _
    rw [← List.map_reverse, List.reverse_reverse]
  generalize eNl (dg b n).reverse = x at *
  simp [m_digits_below, g_digits_below, w', rv]
section
variable {b : Nat} {R : List (List Int)} {O : List Int}
theorem state_eq (h : Ok b R O) (n : Nat) (hl : (dg b n).length ≤ 10000) : m_Sequence_state [seqD b R O, .int n] = .ok (.int ((dg b n).foldl (stepN R) 0)) := by
  have hd := digits_below_eq ⟨h.b2, h.b4⟩ n hl
  have fl := fld_seq b R O
  obtain ⟨h1, h2⟩ := forE (i := 3) (body := sWipe [3] (sVal 2 (e2 FL.getD (e2 FL.getD (e1 (fldD 21 1) (eB 0)) (eB 2)) (eB 3)))) (enc := fun d : Nat => D.int (d : Int))
    (fun (s : Int) => [.val (seqD b R O), .val (.int n), .val (.int s), .no]) (fun s d => stepN R s d) (fun s => Rg R s) (dg b n) 0
    (fun s d hx hj => by
      have hb := dg_lt h.b2 n d hx
      have g1 := row_get hj
      have g2 := h.item hj hb
      have g3 := h.step hj hb
      generalize eTT R = tR at *
      generalize eT (rowN R s) = tr at *
      generalize seqD b R O = sq at *
      exact ⟨by simp, .inl (by simp [fl, g1, g2]), g3⟩)
    h.in0
  have w : w_Sequence_state_1 [.val (seqD b R O), .val (.int n), .val (.int 0), .no] = _ := for_of (by
    generalize seqD b R O = sq at *
    simp [fl, hd]) h1
  generalize seqD b R O = sq at *
  simp [m_Sequence_state, g_Sequence_state, w]
theorem at_eq (h : Ok b R O) (n : Nat) (hl : (dg b n).length ≤ 10000) : m_Sequence_at [seqD b R O, .int n] = .ok (.int (memN b R O n)) := by
  have st := state_eq h n hl
  have fl := fld_seq b R O
  have ou := h.out (h.word (dg b n) 0 (dg_lt h.b2 n) h.in0)
  unfold memN
  generalize seqD b R O = sq at *
  generalize eT O = tO at *
  simp [m_Sequence_at, g_Sequence_at, st, fl, ou]
theorem dg_small {b : Nat} (hb : 2 ≤ b) {n k : Nat} (h : n < 2 ^ k) : (dg b n).length ≤ k := dg_len hb k n (Nat.lt_of_lt_of_le h (Nat.pow_le_pow_left hb k))
end
end K22

namespace K22
open PySem L2 FL PM SQ
/-! the first number at which two sequences differ -/
def optV (b : Nat) : Option (List Nat) → D
  | some w => .int ((valW b w : Nat) : Int)
  | none => .non
section
variable {b : Nat} {R1 R2 : List (List Int)} {O1 O2 : List Int}
theorem differing_w1 (sq1 sq2 : D) (hf : fldD 21 0 sq1 = .ok (.int b)) (hb : b ≤ 4) (w : List Nat) : w_differing_1 [.val sq1, .val sq2, .val (eNt w), .val (.int 0), .no] = .nx [.val sq1, .val sq2, .val (eNt w), .val (.int ((valW b w : Nat) : Int)), .no] := by
  obtain ⟨h1, _⟩ := forE (i := 4) (enc := fun d : Nat => D.int (d : Int)) (body := sWipe [4] (sVal 3 (e2 addD (e2 mulD (eB 3) (e1 (fldD 21 0) (eB 0))) (eB 4))))
    (fun n : Nat => [.val sq1, .val sq2, .val (eNt w), .val (.int (n : Int)), .no]) (fun n d => n * b + d) (fun _ => True) w 0
    (fun n d hx _ => by
      have mu := x_mulR (n : Int) (b : Int) (by omega)
      refine ⟨by simp, .inl ?_, trivial⟩
      generalize eNt w = t at *
      simp [hf, mu]) trivial
  exact for_of (by simp) h1
theorem differing_eq (h1 : Ok b R1 O1) (h2 : Ok b R2 O2) (q1 : Quiet b R1 O1) (q2 : Quiet b R2 O2) : ∃ o, m_differing [seqD b R1 O1, seqD b R2 O2] = .ok (optV b o) ∧ FirstIs b (diffW R1 R2 O1 O2 0 0) o := by
  obtain ⟨Q1, f1, m1, d1, a1, F1⟩ := foldS_ex h1
  obtain ⟨Q2, f2, m2, d2, a2, F2⟩ := foldS_ex h2
  have l1 := least_eq h1 q1 F1
  have l2 := least_eq h2 q2 F2
  have k1 := least_ok h1 F1
  have k2 := least_ok h2 F2
  obtain ⟨o, po, fo⟩ := parting_eq k1 k2 k1.in0 k2.in0
  have fo2 : FirstIs b (diffW R1 R2 O1 O2 0 0) o := fo.congr fun u hu => by
    rw [diff_out, diff_out, least_out h1 F1 u hu, least_out h2 F2 u hu]
  refine ⟨o, ?_, fo2⟩
  have fl1 := fld_seq b R1 O1
  have fl2 := fld_seq b R2 O2
  have b4 := h1.b4
  cases o with
  | none =>
    have po : m_parting_digits [seqD b (tabS b d1 m1) (outS a1 m1), .int 0, seqD b (tabS b d2 m2) (outS a2 m2), .int 0] = .ok .non := po
    show _ = Res.ok D.non
    generalize seqD b R1 O1 = s1 at *
    generalize seqD b R2 O2 = s2 at *
    generalize seqD b (tabS b d1 m1) (outS a1 m1) = t1 at *
    generalize seqD b (tabS b d2 m2) (outS a2 m2) = t2 at *
    simp [m_differing, g_differing, fl1, fl2, l1, l2, po]
  | some w =>
    have po : m_parting_digits [seqD b (tabS b d1 m1) (outS a1 m1), .int 0, seqD b (tabS b d2 m2) (outS a2 m2), .int 0] = .ok (eNt w) := po
    have w1 := differing_w1 (b := b) (seqD b R1 O1) (seqD b R2 O2) fl1.1 b4 w
    have nn : isNone (eNt w) = false := rfl
    show _ = Res.ok (D.int ((valW b w : Nat) : Int))
    generalize eNt w = tw at *
    generalize seqD b R1 O1 = s1 at *
    generalize seqD b R2 O2 = s2 at *
    generalize seqD b (tabS b d1 m1) (outS a1 m1) = t1 at *
    generalize seqD b (tabS b d2 m2) (outS a2 m2) = t2 at *
    simp [m_differing, g_differing, fl1, fl2, l1, l2, po, nn, w1]
theorem differing_bases {b' : Nat} (hb : b ≠ b') : m_differing [seqD b R1 O1, seqD b' R2 O2] = .exc ⟨7, none⟩ := by
  have fl1 := fld_seq b R1 O1
  have fl2 := fld_seq b' R2 O2
  have hb' : ¬ (b : Int) = b' := by omega
  generalize seqD b R1 O1 = s1 at *
  generalize seqD b' R2 O2 = s2 at *
  simp [m_differing, g_differing, fl1, fl2, hb']
theorem same_eq (h1 : Ok b R1 O1) (h2 : Ok b R2 O2) (q1 : Quiet b R1 O1) (q2 : Quiet b R2 O2) : ∃ o, m_same [seqD b R1 O1, seqD b R2 O2] = .ok (.bl o.isNone) ∧ FirstIs b (diffW R1 R2 O1 O2 0 0) o := by
  obtain ⟨o, e, fo⟩ := differing_eq h1 h2 q1 q2
  refine ⟨o, ?_, fo⟩
  generalize seqD b R1 O1 = s1 at *
  generalize seqD b R2 O2 = s2 at *
  cases o <;> simp [m_same, g_same, e, optV]
theorem same_bases {b' : Nat} (hb : b ≠ b') : m_same [seqD b R1 O1, seqD b' R2 O2] = .exc ⟨7, none⟩ := by
  have e := differing_bases (R1 := R1) (R2 := R2) (O1 := O1) (O2 := O2) hb
  generalize seqD b R1 O1 = s1 at *
  generalize seqD b' R2 O2 = s2 at *
  simp [m_same, g_same, e]
end
end K22

namespace K22
open PySem L2 FL PM SQ
/-! doubled sequences -/
section
variable {b : Nat} {R : List (List Int)} {O : List Int}
def dblN (ds : List Int) (R : List (List Int)) (s d : Nat) : Int := stepN R ((s % R.length : Nat) : Int) d + (R.length : Int) * (getN ds (((3 * s + d) % ds.length : Nat) : Int) % 2)
def dbl (ds : List Int) (b : Nat) (R : List (List Int)) (n : Nat) : List (List Int) := (List.range n).map fun s => (List.range b).map fun d => dblN ds R s d
theorem law_doubled_eq (h : Ok b R O) (ds : List Int) (hd : 0 < ds.length) (hm : R.length ≤ 100) : m_law_doubled [eTT R, eT O, .lst (ds.map D.int)] = .ok (.tup [eLT (dbl ds b R (2 * R.length)), .lst ((O ++ O).map D.int)]) := by
  have lT : lenD [eTT R] = .ok (.int R.length) := by show Res.ok (D.int ((R.map eT).length : Nat)) = _; rw [List.length_map]
  have g0 := row_get h.in0
  have l0 : lenD [eT (rowN R 0)] = .ok (.int b) := by show Res.ok (D.int (((rowN R 0).map D.int).length : Nat)) = _; rw [List.length_map, h.rlen h.in0]
  have b4 := h.b4
  have pos := h.pos
  have row : ∀ (s : Nat) (x5 : Cel), c_law_doubled_1 [.val (eTT R), .val (eT O), .val (.lst (ds.map D.int)), .val (.int R.length), .val (.int b), x5, .val (.int (s : Nat)), .val (eT (rowN R ((s % R.length : Nat) : Int))), .no] = .ok (.lst ((List.range b).map fun d => D.int (dblN ds R s d))) := fun s x5 =>
    eLc_one (φ := fun d : Nat => D.int (dblN ds R s d)) (enc := fun i : Nat => D.int (i : Int)) (List.range b) (iR1_nat b (by omega) (by simp)) (by simp; omega) (by simp) fun d hd' => by
      rw [List.mem_range] at hd'
      have hs : Rg R ((s % R.length : Nat) : Int) := ⟨by omega, by have := Nat.mod_lt s pos; omega⟩
      have it := h.item hs hd'
      obtain ⟨q, hq⟩ : ∃ q, (3 * s + d) % ds.length = q := ⟨_, rfl⟩
      have i1 : q < ds.length := by rw [← hq]; exact Nat.mod_lt _ hd
      have hl : (0 : Int) < ds.length := by omega
      have mm : modD (.int (3 * (s : Int) + d)) (.int ds.length) = .ok (.int (q : Nat)) := by
        rw [x_mod _ _ hl, ← hq]
        simp
      have g := getD_ints (ds := ds) (i := ((q : Nat) : Int)) (by omega) (by omega)
      have mu := x_mulL 3 (s : Int) (by omega)
      have mu2 := x_mulL (R.length : Int) (getN ds (q : Nat) % 2) (by omega)
      show _ = Res.ok (D.int (dblN ds R s d))
      unfold dblN
      rw [hq]
      generalize eT (rowN R ((s % R.length : Nat) : Int)) = tr at *
      generalize stepN R ((s % R.length : Nat) : Int) d = v at *
      generalize getN ds ((q : Nat) : Int) = v2 at *
      simp [it, mu, mm, g, mu2]
  obtain ⟨Γ', h1, h2⟩ := forK (i := 6) (enc := fun i : Nat => D.int (i : Int)) (body := sWipe [6, 7] (sSeq (sVal 7 (e2 FL.getD (eB 0) (e2 modD (eN FL.intD (aCons (eB 6) aNil)) (eB 3)))) (sApp 5 (eN tupD (aCons c_law_doubled_1 aNil)))))
    (fun k Γ => Γ = [.val (eTT R), .val (eT O), .val (.lst (ds.map D.int)), .val (.int R.length), .val (.int b), .own (eLT (dbl ds b R k)), .no, .no, .no]) (List.range (2 * R.length)) 0 _
    (fun j y Γ hy hJ => by
      obtain ⟨rfl, hj⟩ := range_get hy
      subst hJ
      rw [Nat.zero_add]
      have hs : Rg R ((y % R.length : Nat) : Int) := ⟨by omega, by have := Nat.mod_lt y pos; omega⟩
      have gr := row_get hs
      have rr := row y (.own (eLT (dbl ds b R y)))
      have sz := sizeLt (n := (dbl ds b R y).length) (by simp [dbl]; omega)
      have pl : (0 : Int) < R.length := by omega
      have mm : modD (.int (y : Int)) (.int R.length) = .ok (.int (y % R.length : Nat)) := by
        rw [x_mod _ _ pl]
        simp
      have nx : eLT (dbl ds b R (y + 1)) = .lst ((dbl ds b R y).map eT ++ [.tup ((List.range b).map fun d => D.int (dblN ds R y d))]) := by
        have e1 : eT ((List.range b).map fun d => dblN ds R y d) = .tup ((List.range b).map fun d => D.int (dblN ds R y d)) := by rw [eT, List.map_map]; rfl
        rw [← e1]
        unfold dbl
        rw [List.range_succ, List.map_append, eLT, List.map_append]
        rfl
      rw [nx]
      have l1 : ((dbl ds b R y).map eT).length = (dbl ds b R y).length := List.length_map _
      obtain ⟨q, hq⟩ : ∃ q, y % R.length = q := ⟨_, rfl⟩
      rw [hq] at gr rr mm
      refine ⟨by simp, [.val (eTT R), .val (eT O), .val (.lst (ds.map D.int)), .val (.int R.length), .val (.int b), .own (.lst ((dbl ds b R y).map eT ++ [.tup ((List.range b).map fun d => D.int (dblN ds R y d))])), .no, .no, .no], .inl ?_, rfl⟩
      have ll : eLT (dbl ds b R y) = .lst ((dbl ds b R y).map eT) := rfl
      rw [ll] at rr ⊢
      generalize (List.range b).map (fun d => D.int (dblN ds R y d)) = rw_ at *
      generalize (dbl ds b R y).map eT = dd at *
      generalize eT (rowN R ((q : Nat) : Int)) = tr at *
      generalize eTT R = tR at *
      generalize eT O = tO at *
      simp [mm, gr, rr, l1, sz])
    rfl
  subst h2
  have w : w_law_doubled_1 [.val (eTT R), .val (eT O), .val (.lst (ds.map D.int)), .val (.int R.length), .val (.int b), .own (.lst []), .no, .no, .no] = _ := for_of (iR1_nat (2 * R.length) (by omega) (by
    have mu := x_mulL 2 (R.length : Int) (by omega)
    generalize eTT R = tR at *
    generalize eT O = tO at *
    simp [mu])) h1
  rw [Nat.zero_add, List.length_range] at w
  have l2 : listD [eT O] = .ok (.lst (O.map D.int)) := rfl
  have ct := catL_ok (xs := O.map D.int) (ys := O.map D.int) (by have := h.olen; simp; omega)
  have m2 : ∀ x y : D, mkTup [x, y] = .ok (.tup [x, y]) := fun x y => mkTup_ok (by simp)
  rw [List.map_append]
  generalize eLT (dbl ds b R (2 * R.length)) = dd at *
  generalize O.map D.int = oL at *
  generalize eT (rowN R 0) = t0 at *
  generalize eTT R = tR at *
  generalize eT O = tO at *
  simp [m_law_doubled, g_law_doubled, lT, g0, l0, w, l2, ct, m2]
theorem dbl_step {ds : List Int} {n s j : Nat} (hs : s < n) (hj : j < b) : stepN (dbl ds b R n) (s : Int) j = dblN ds R s j := by
  unfold stepN rowN dbl
  simp [hs, getN, hj]
theorem dbl_in (h : Ok b R O) (ds : List Int) {s j : Nat} (hj : j < b) : 0 ≤ dblN ds R s j ∧ dblN ds R s j < 2 * R.length ∧ dblN ds R s j % R.length = stepN R ((s % R.length : Nat) : Int) j := by
  have pos := h.pos
  have hs : Rg R ((s % R.length : Nat) : Int) := ⟨by omega, by have := Nat.mod_lt s pos; omega⟩
  have st := h.step hs hj
  unfold dblN
  have h1 := Int.emod_nonneg (getN ds (((3 * s + j) % ds.length : Nat) : Int)) (show (2 : Int) ≠ 0 by decide)
  have h2 := Int.emod_lt_of_pos (getN ds (((3 * s + j) % ds.length : Nat) : Int)) (show (0 : Int) < 2 by decide)
  generalize getN ds (((3 * s + j) % ds.length : Nat) : Int) % 2 = z at *
  generalize stepN R ((s % R.length : Nat) : Int) j = v at *
  have e : (v + (R.length : Int) * z) % R.length = v := by
    rw [Int.add_mul_emod_self_left, Int.emod_eq_of_lt st.1 st.2]
  refine ⟨?_, ?_, e⟩
  · obtain rfl | rfl : z = 0 ∨ z = 1 := by omega
    · have := st.1; omega
    · have := st.1; omega
  · obtain rfl | rfl : z = 0 ∨ z = 1 := by omega
    · have := st.2; omega
    · have := st.2; omega
theorem dbl_ok (h : Ok b R O) (ds : List Int) (hm : R.length ≤ 100) : Ok b (dbl ds b R (2 * R.length)) (O ++ O) := by
  have pos := h.pos
  refine ⟨h.b2, h.b4, by simp [dbl]; omega, by simp [dbl]; omega, fun r hr => ?_, by simp [dbl, h.olen]; omega, fun o ho => ?_⟩
  · obtain ⟨s, hs, rfl⟩ := List.mem_map.mp hr
    refine ⟨by simp, fun x hx => ?_⟩
    obtain ⟨j, hj, rfl⟩ := List.mem_map.mp hx
    obtain ⟨h1, h2, _⟩ := dbl_in h ds (s := s) (List.mem_range.mp hj)
    simp only [Rg, dbl, List.length_map, List.length_range]
    omega
  · rcases List.mem_append.mp ho with ho | ho <;> exact h.outs o ho
/-- the same outputs behind all words -/
theorem dbl_same (h : Ok b R O) (ds : List Int) (hm : R.length ≤ 100) (u : List Nat) (hu : ∀ j ∈ u, j < b) {s : Int} (hs : Rg (dbl ds b R (2 * R.length)) s) : getN (O ++ O) (u.foldl (stepN (dbl ds b R (2 * R.length))) s) = getN O (u.foldl (stepN R) (s % R.length)) := by
  have pos := h.pos
  have hk := dbl_ok h ds hm
  refine hom_same (b := b) (S := fun s => Rg (dbl ds b R (2 * R.length)) s) (g := fun s => s % R.length) (fun s j hs hj => ?_) (fun s hs => ?_) u s hs hu
  · refine ⟨hk.step hs hj, ?_⟩
    obtain ⟨n, rfl⟩ : ∃ n : Nat, s = n := ⟨s.toNat, by have := hs.1; omega⟩
    have hn : n < 2 * R.length := by have := hs.2; simp [dbl] at this; omega
    show stepN (dbl ds b R (2 * R.length)) (n : Int) j % R.length = stepN R ((n : Int) % R.length) j
    rw [dbl_step hn hj, (dbl_in h ds hj).2.2]
    rfl
  · obtain ⟨n, rfl⟩ : ∃ n : Nat, s = n := ⟨s.toNat, by have := hs.1; omega⟩
    have hn : n < 2 * R.length := by have := hs.2; simp [dbl] at this; omega
    show getN (O ++ O) (n : Int) = getN O ((n : Int) % R.length)
    have ol := h.olen
    have e : ((n : Int) % R.length) = ((n % R.length : Nat) : Int) := rfl
    rw [e]
    unfold getN
    rw [Int.toNat_natCast, Int.toNat_natCast]
    by_cases q : n < R.length
    · rw [Nat.mod_eq_of_lt q, List.getElem?_append_left (by omega)]
    · have : n % R.length = n - R.length := by
        rw [Nat.mod_eq_sub_mod (by omega), Nat.mod_eq_of_lt (by omega)]
      rw [this, List.getElem?_append_right (by omega), ol]
end
end K22

namespace K22
open PySem L2 FL PM SQ
/-! the law's own first number -/
section
variable {b : Nat} {R1 R2 : List (List Int)} {O1 O2 : List Int}
abbrev pairD (R : List (List Int)) (O : List Int) : D := .tup [eTT R, eT O]
theorem pd0 (R : List (List Int)) (O : List Int) : FL.getD (pairD R O) (.int 0) = .ok (eTT R) := rfl
theorem pd1 (R : List (List Int)) (O : List Int) : FL.getD (pairD R O) (.int 1) = .ok (eT O) := rfl
def dfSt (p1 p2 : D) (b : Nat) (x5 x6 x7 : Cel) (L : List ((Int × Int) × List Nat)) : Slots := [.val p1, .val p2, .val (.int b), .own (.lst (L.map fun e => D.int ((valW b e.2 : Nat) : Int))), .own (.lst (L.map fun e => pI e.1)), x5, x6, x7, .no, .no]
theorem law_differing_w1 (h1 : Ok b R1 O1) (h2 : Ok b R2 O2) {k : Nat} {e : (Int × Int) × List Nat} {L : List ((Int × Int) × List Nat)} (hok : WOk (step2 R1 R2) b (0, 0) k 0 L) (he : L[k]? = some e) (hin : in2 R1 R2 e.1) (hL : L.length ≤ 10000000) :
    w_law_differing_1 (dfSt (pairD R1 O1) (pairD R2 O2) b (.val (.int (k : Nat))) (.val (.int e.1.1)) (.val (.int e.1.2)) L) = .nx (dfSt (pairD R1 O1) (pairD R2 O2) b (.val (.int (k : Nat))) (.val (.int e.1.1)) (.val (.int e.1.2)) ((rowW (step2 R1 R2) e b).foldl addW L)) := by
  obtain ⟨⟨p, q⟩, w⟩ := e
  obtain ⟨hp, hq⟩ := hin
  have g1 := row_get hp
  have g2 := row_get hq
  have b4 := h1.b4
  have a0 := pd0 R1 O1
  have a1 := pd0 R2 O2
  obtain ⟨w1, w2⟩ := forEgi (h := gN 8) (body := sWipe [8, 9] (sSeq (sVal 9 (eN mkTup (aCons (e2 FL.getD (e2 FL.getD (e2 FL.getD (eB 0) (eC (.int 0))) (eB 6)) (eB 8)) (aCons (e2 FL.getD (e2 FL.getD (e2 FL.getD (eB 1) (eC (.int 0))) (eB 7)) (eB 8)) aNil)))) (sIf (nT (e2 ninDp (eB 9) (eB 4))) (sSeq (sApp 4 (eV 9)) (sApp 3 (e2 addD (e2 mulD (e2 FL.getD (eB 3) (eB 5)) (eB 2)) (eB 8)))) sNx))) (enc := fun i : Nat => D.int (i : Int))
    (dfSt (pairD R1 O1) (pairD R2 O2) b (.val (.int (k : Nat))) (.val (.int p)) (.val (.int q))) (fun M n => addW M (step2 R1 R2 (p, q) n, w ++ [n])) (fun n M => (∃ r, M = L ++ r) ∧ M.length ≤ L.length + n) (List.range b) 0 L
    (fun n M x hx hM => by
      obtain ⟨rfl, hjn⟩ := range_get hx
      obtain ⟨⟨r, hr⟩, lM⟩ := hM
      have i1 := h1.item hp hjn
      have i2 := h2.item hq hjn
      have sz1 := sizeLt (n := M.length) (by omega)
      have nm := nmem_pI (step2 R1 R2 (p, q) x) M
      have hMk : M[k]? = some ((p, q), w) := by rw [hr, List.getElem?_append_left (List.getElem?_eq_some_iff.mp he).1]; exact he
      have gw : FL.getD (.lst (M.map fun e => D.int ((valW b e.2 : Nat) : Int))) (.int (k : Nat)) = .ok (.int ((valW b w : Nat) : Int)) := getD_map (enc := fun e : (Int × Int) × List Nat => D.int ((valW b e.2 : Nat) : Int)) (i := ((k : Nat) : Int)) (x := ((p, q), w)) (by omega) (by rw [Int.toNat_natCast]; exact hMk)
      have m1 : mkTup [.int (stepN R1 p x), .int (stepN R2 q x)] = .ok (pI (step2 R1 R2 (p, q) x)) := mkTup_ok (by simp)
      have mu := x_mulR ((valW b w : Nat) : Int) (b : Int) (by omega)
      refine ⟨(dfSt (pairD R1 O1) (pairD R2 O2) b (.val (.int (k : Nat))) (.val (.int p)) (.val (.int q)) M).set 8 (.val (.int (x : Nat))), by simp [dfSt], ?_⟩
      by_cases z : step2 R1 R2 (p, q) x ∈ M.map Prod.fst
      · have q1 : addW M (step2 R1 R2 (p, q) x, w ++ [x]) = M := if_pos z
        rw [decide_eq_true z] at nm
        refine ⟨.inl ?_, by rw [q1]; exact ⟨r, hr⟩, by rw [q1]; omega⟩
        rw [q1]
        simp only [dfSt]
        generalize pI (step2 R1 R2 (p, q) x) = y at *
        generalize pairD R1 O1 = p1 at *
        generalize pairD R2 O2 = p2 at *
        generalize eTT R2 = t2 at *
        generalize eTT R1 = t1 at *
        generalize eT (rowN R1 p) = t3 at *
        generalize eT (rowN R2 q) = t4 at *
        generalize (M.map fun e => pI e.1) = sO at *
        generalize (M.map fun e => D.int ((valW b e.2 : Nat) : Int)) = sW at *
        simp [a0, a1, g1, g2, i1, i2, m1, nm]
      · have q1 : addW M (step2 R1 R2 (p, q) x, w ++ [x]) = M ++ [(step2 R1 R2 (p, q) x, w ++ [x])] := if_neg z
        rw [decide_eq_false z] at nm
        refine ⟨.inl ?_, ?_, by rw [q1]; simp; omega⟩
        · rw [q1]
          have s1 : ((M ++ [(step2 R1 R2 (p, q) x, w ++ [x])]).map fun e => pI e.1) = (M.map fun e => pI e.1) ++ [pI (step2 R1 R2 (p, q) x)] := by simp
          have s2 : ((M ++ [(step2 R1 R2 (p, q) x, w ++ [x])]).map fun e => D.int ((valW b e.2 : Nat) : Int)) = (M.map fun e => D.int ((valW b e.2 : Nat) : Int)) ++ [.int (((valW b w : Nat) : Int) * b + x)] := by
            simp [valW_snoc]
          have l2 : (M.map fun e => pI e.1).length = M.length := by simp
          have l3 : (M.map fun e => D.int ((valW b e.2 : Nat) : Int)).length = M.length := by simp
          simp only [dfSt, s1, s2]
          generalize pI (step2 R1 R2 (p, q) x) = y at *
          generalize (M.map fun e => pI e.1) = sO at *
          generalize (M.map fun e => D.int ((valW b e.2 : Nat) : Int)) = sW at *
          generalize pairD R1 O1 = p1 at *
          generalize pairD R2 O2 = p2 at *
          generalize eTT R2 = t2 at *
          generalize eTT R1 = t1 at *
          generalize eT (rowN R1 p) = t3 at *
          generalize eT (rowN R2 q) = t4 at *
          simp [a0, a1, g1, g2, i1, i2, m1, nm, gw, mu, l2, l3, sz1]
        · rw [q1, hr, List.append_assoc]
          exact ⟨_, rfl⟩)
    ⟨⟨[], by simp⟩, by omega⟩
  have q3 : (rowW (step2 R1 R2) ((p, q), w) b).foldl addW L = (List.range b).foldl (fun M n => addW M (step2 R1 R2 (p, q) n, w ++ [n])) L := by
    unfold rowW
    rw [List.foldl_map]
  rw [q3]
  refine for_of (iR1_nat b (by omega) ?_) w1
  simp only [dfSt]
  generalize pairD R1 O1 = p1 at *
  generalize pairD R2 O2 = p2 at *
  simp
def optV' (b : Nat) : Option (List Nat) → D
  | some w => .int ((valW b w : Nat) : Int)
  | none => .non
theorem law_differing_eq (h1 : Ok b R1 O1) (h2 : Ok b R2 O2) : ∃ o, m_law_differing [pairD R1 O1, pairD R2 O2, .int b] = .ok (optV' b o) ∧ FirstIs b (diffW R1 R2 O1 O2 0 0) o := by
  have big : R1.length * R2.length ≤ 4000000 := Nat.mul_le_mul h1.top h2.top
  have a0 := pd0 R1 O1
  have a1 := pd0 R2 O2
  have o0 := pd1 R1 O1
  have o1 := pd1 R2 O2
  have l1 : lenD [eTT R1] = .ok (.int R1.length) := by show Res.ok (D.int ((R1.map eT).length : Nat)) = _; rw [List.length_map]
  have l2 : lenD [eTT R2] = .ok (.int R2.length) := by show Res.ok (D.int ((R2.map eT).length : Nat)) = _; rw [List.length_map]
  have key := forR (h := gN 5) (enc := fun i : Nat => D.int (i : Int)) (body := sWipe [5, 6, 7, 8, 9] (sWipe [6, 7, 8, 9] (sIf (nT (e2 ltD (eB 5) (eN lenD (aCons (eB 4) aNil)))) (sSeq (sAsg (e2 FL.getD (eB 4) (eB 5)) (gT 2 (gsC (gN 6) (gsC (gN 7) gsN)))) (sSeq (sIf (nT (e2 neD (e2 FL.getD (e2 FL.getD (eB 0) (eC (.int 1))) (eB 6)) (e2 FL.getD (e2 FL.getD (eB 1) (eC (.int 1))) (eB 7)))) (sRet (e2 FL.getD (eB 3) (eB 5))) sNx) (sWipe [8, 9] w_law_differing_1))) sNx)))
    (fun k : Nat => dfSt (pairD R1 O1) (pairD R2 O2) b .no .no .no (run2 R1 R2 b 0 0 k)) (fun n k => n = k ∧ noneTo R1 R2 O1 O2 b 0 0 k)
    (fun r => ∃ w, r = .int ((valW b w : Nat) : Int) ∧ IsFirst b (diffW R1 R2 O1 O2 0 0) w) (List.range (R1.length * R2.length)) 0 0
    (fun n k x hx hI => by
      obtain ⟨rfl, hxl⟩ := range_get hx
      obtain ⟨rfl, hk⟩ := hI
      rw [Nat.zero_add] at hk ⊢
      have ll := run2_len h1 h2 h1.in0 h2.in0 x
      refine ⟨(dfSt (pairD R1 O1) (pairD R2 O2) b .no .no .no (run2 R1 R2 b 0 0 x)).set 5 (.val (.int (x : Nat))), by simp [dfSt], ?_⟩
      have lP : ((run2 R1 R2 b 0 0 x).map fun e => pI e.1).length = (run2 R1 R2 b 0 0 x).length := List.length_map _
      by_cases q : x < (run2 R1 R2 b 0 0 x).length
      · obtain ⟨e, he⟩ : ∃ e, (run2 R1 R2 b 0 0 x)[x]? = some e := ⟨_, List.getElem?_eq_getElem q⟩
        have ok := runW_ok (step2 R1 R2) b (0, 0) x
        have hm := List.mem_of_getElem? he
        have ein := run2_in h1 h2 h1.in0 h2.in0 x e hm
        have w1 := law_differing_w1 (O1 := O1) (O2 := O2) h1 h2 ok he ein (by have : (runW (step2 R1 R2) b (0, 0) x).length ≤ _ := ll; omega)
        have q3 : (rowW (step2 R1 R2) e b).foldl addW (runW (step2 R1 R2) b (0, 0) x) = run2 R1 R2 b 0 0 (x + 1) := (runW_succ he).symm
        rw [q3] at w1
        have go : FL.getD (.lst ((run2 R1 R2 b 0 0 x).map fun e => pI e.1)) (.int (x : Nat)) = .ok (pI e.1) := getD_map (enc := fun e : (Int × Int) × List Nat => pI e.1) (by omega) (by rw [Int.toNat_natCast]; exact he)
        have gw : FL.getD (.lst ((run2 R1 R2 b 0 0 x).map fun e => D.int ((valW b e.2 : Nat) : Int))) (.int (x : Nat)) = .ok (.int ((valW b e.2 : Nat) : Int)) := getD_map (enc := fun e : (Int × Int) × List Nat => D.int ((valW b e.2 : Nat) : Int)) (by omega) (by rw [Int.toNat_natCast]; exact he)
        have i1 := h1.out ein.1
        have i2 := h2.out ein.2
        have first : diffP O1 O2 e.1 = true → IsFirst b (diffW R1 R2 O1 O2 0 0) e.2 := fun hc =>
          found_first (p := diffP O1 O2) (K := R1.length * R2.length) (run2_len h1 h2 h1.in0 h2.in0 _) he hc hk
        have up := noneTo_up hk he
        have df : diffP O1 O2 e.1 = !decide (getN O1 e.1.1 = getN O2 e.1.2) := rfl
        have pe : pI e.1 = .tup [.int e.1.1, .int e.1.2] := rfl
        rw [pe] at go
        have fin : ∀ v : Int, v = ((valW b e.2 : Nat) : Int) → IsFirst b (diffW R1 R2 O1 O2 0 0) e.2 → ∃ w, D.int v = .int ((valW b w : Nat) : Int) ∧ IsFirst b (diffW R1 R2 O1 O2 0 0) w := fun v hv hf => ⟨e.2, by rw [hv], hf⟩
        have ql : ((run2 R1 R2 b 0 0 x).map fun e => pI e.1).length = (run2 R1 R2 b 0 0 x).length := List.length_map _
        simp only [dfSt] at w1 ⊢
        generalize pairD R1 O1 = p1 at *
        generalize pairD R2 O2 = p2 at *
        generalize ((valW b e.2 : Nat) : Int) = vw at *
        generalize ((run2 R1 R2 b 0 0 x).map fun e => pI e.1) = sO at *
        generalize ((run2 R1 R2 b 0 0 x).map fun e => D.int ((valW b e.2 : Nat) : Int)) = sW at *
        generalize eT O1 = t1 at *
        generalize eT O2 = t2 at *
        generalize getN O1 e.1.1 = z1 at *
        generalize getN O2 e.1.2 = z2 at *
        have q' : x < sO.length := by rw [ql]; exact q
        by_cases c : z1 = z2
        · rw [decide_eq_true c] at df
          refine .inl ⟨x + 1, .inl ?_, rfl, up df⟩
          simp [q', go, o0, o1, i1, i2, c, w1]
        · rw [decide_eq_false c] at df
          refine .inr ⟨.int vw, ?_, fin vw rfl (first df)⟩
          simp [q', go, o0, o1, i1, i2, c, gw]
      · have le : (runW (step2 R1 R2) b (0, 0) x).length ≤ x := by have : ¬ x < (runW (step2 R1 R2) b (0, 0) x).length := q; omega
        have e1 : run2 R1 R2 b 0 0 (x + 1) = run2 R1 R2 b 0 0 x := runW_none le
        refine .inl ⟨x + 1, .inl ?_, rfl, fun n hn e he => ?_⟩
        · rw [e1]
          simp only [dfSt]
          have ql : ((run2 R1 R2 b 0 0 x).map fun e => pI e.1).length = (run2 R1 R2 b 0 0 x).length := List.length_map _
          generalize pairD R1 O1 = p1 at *
          generalize pairD R2 O2 = p2 at *
          generalize ((run2 R1 R2 b 0 0 x).map fun e => pI e.1) = sO at *
          generalize ((run2 R1 R2 b 0 0 x).map fun e => D.int ((valW b e.2 : Nat) : Int)) = sW at *
          have q' : ¬ x < sO.length := by rw [ql]; exact q
          simp [q']
        · rw [e1] at he
          have := (List.getElem?_eq_some_iff.mp he).1
          exact hk n (by have : n < (runW (step2 R1 R2) b (0, 0) x).length := this; omega) e he)
    ⟨rfl, fun i hi => by omega⟩
  have s0 : dfSt (pairD R1 O1) (pairD R2 O2) b .no .no .no (run2 R1 R2 b 0 0 0) = [.val (pairD R1 O1), .val (pairD R2 O2), .val (.int b), .own (.lst [.int 0]), .own (.lst [.tup [.int 0, .int 0]]), .no, .no, .no, .no, .no] := rfl
  rw [s0] at key
  have it : ∀ x3 x4, iN asR1 (aCons (e2 mulD (eN lenD (aCons (e2 FL.getD (eB 0) (eC (.int 0))) aNil)) (eN lenD (aCons (e2 FL.getD (eB 1) (eC (.int 0))) aNil))) aNil) [.val (pairD R1 O1), .val (pairD R2 O2), .val (.int b), x3, x4, .no, .no, .no, .no, .no] = .ok ((List.range (R1.length * R2.length)).map fun i : Nat => D.int (i : Int)) := fun x3 x4 => by
    refine iR1_nat (R1.length * R2.length) (by omega) ?_
    have t1 := h1.top
    have mu := x_mulL (R1.length : Int) (R2.length : Int) (by omega)
    have cc : ((R1.length * R2.length : Nat) : Int) = (R1.length : Int) * R2.length := Int.natCast_mul _ _
    rw [cc]
    generalize pairD R1 O1 = p1 at *
    generalize pairD R2 O2 = p2 at *
    generalize eTT R1 = tt1 at *
    generalize eTT R2 = tt2 at *
    simp [a0, a1, l1, l2, mu]
  have m1 : mkTup [.int 0, .int 0] = .ok (.tup [.int 0, .int 0]) := mkTup_ok (by simp)
  have k1 : mkLst [.int 0] = .ok (.lst [.int 0]) := mkLst_ok (by simp)
  have k2 : mkLst [.tup [.int 0, .int 0]] = .ok (.lst [.tup [.int 0, .int 0]]) := mkLst_ok (by simp)
  rcases key with ⟨k, e, rfl, i1⟩ | ⟨r, e, w, rfl, hw⟩
  · refine ⟨none, ?_, fun u hu => ?_⟩
    · have w2 : w_law_differing_2 [.val (pairD R1 O1), .val (pairD R2 O2), .val (.int b), .own (.lst [.int 0]), .own (.lst [.tup [.int 0, .int 0]]), .no, .no, .no, .no, .no] = _ := for_of (it _ _) e
      simp only [dfSt] at w2
      show _ = Res.ok D.non
      generalize pairD R1 O1 = p1 at *
      generalize pairD R2 O2 = p2 at *
      simp [m_law_differing, g_law_differing, m1, k1, k2, w2]
    · rw [Nat.zero_add, List.length_range] at i1
      have le := run2_len h1 h2 h1.in0 h2.in0 (R1.length * R2.length)
      refine none_first (p := diffP O1 O2) (k := R1.length * R2.length) le (fun e he => ?_) u hu
      obtain ⟨n, hn⟩ := List.getElem?_of_mem he
      exact i1 n (by have := (List.getElem?_eq_some_iff.mp hn).1; unfold run2 at le; omega) e hn
  · refine ⟨some w, ?_, hw⟩
    have w2 : w_law_differing_2 [.val (pairD R1 O1), .val (pairD R2 O2), .val (.int b), .own (.lst [.int 0]), .own (.lst [.tup [.int 0, .int 0]]), .no, .no, .no, .no, .no] = _ := for_of (it _ _) e
    show _ = Res.ok (D.int ((valW b w : Nat) : Int))
    generalize ((valW b w : Nat) : Int) = vw at *
    generalize pairD R1 O1 = p1 at *
    generalize pairD R2 O2 = p2 at *
    simp [m_law_differing, g_law_differing, m1, k1, k2, w2]
end
end K22

namespace K22
open PySem L2 FL PM SQ
/-! the law -/
section
variable {b : Nat}
/-- the first member that differs, as the law looks for it -/
theorem law_c1 {R1 R2 : List (List Int)} {O1 O2 : List Int} (h1 : Ok b R1 O1) (h2 : Ok b R2 O2) (N : Nat) (hd : memN b R1 O1 N ≠ memN b R2 O2 N) (hs : ∀ n < N, memN b R1 O1 n = memN b R2 O2 n) (x0 x1 x2 x3 x4 x6 x7 x8 x9 x10 x11 x12 x13 x14 x15 x18 : Cel) :
    c_law_1 [x0, x1, x2, x3, x4, .val (seqD b R1 O1), x6, x7, x8, x9, x10, x11, x12, x13, x14, x15, .val (.int (N : Nat)), .val (seqD b R2 O2), x18, .no] = .ok (.lst (if N ≤ 200 then [.int (N : Nat)] else [])) := by
  have fl1 := fld_seq b R1 O1
  have fl2 := fld_seq b R2 O2
  have mn : min2D [.int (N : Nat), .int 200] = .ok (.int (min N 200 : Nat)) := by
    show Res.ok (D.int (if (200 : Int) < N then 200 else N)) = _
    by_cases q : (200 : Int) < N
    · rw [if_pos q]; congr 2; omega
    · rw [if_neg q]; congr 2; omega
  have q := eLc_if (Γ := [x0, x1, x2, x3, x4, .val (seqD b R1 O1), x6, x7, x8, x9, x10, x11, x12, x13, x14, x15, .val (.int (N : Nat)), .val (seqD b R2 O2), x18, .no]) (i := 19) (its := iN asR1 (aCons (e2 addD (eN min2D (aCons (eB 16) (aCons (eC (.int 200)) aNil))) (eC (.int 1))) aNil))
    (p := nT (e2 neD (eMeth 21 m_Sequence_at (eV 5) (aCons (eV 19) aNil)) (eMeth 21 m_Sequence_at (eV 17) (aCons (eV 19) aNil)))) (f := eV 19) (enc := fun i : Nat => D.int (i : Int)) (φ := fun i : Nat => D.int (i : Int)) (q := fun i => !decide (memN b R1 O1 i = memN b R2 O2 i)) (List.range (min N 200 + 1)) (iR1_nat (min N 200 + 1) (by omega) (by
      have cc : ((min N 200 + 1 : Nat) : Int) = ((min N 200 : Nat) : Int) + 1 := by omega
      rw [cc]
      generalize ((min N 200 : Nat) : Int) = mN at *
      generalize seqD b R1 O1 = s1 at *
      generalize seqD b R2 O2 = s2 at *
      simp [mn])) (by simp; omega) (by simp) fun i hi => by
      rw [List.mem_range] at hi
      have a1 := at_eq h1 i (Nat.le_trans (dg_small h1.b2 (k := 10) (by omega)) (by omega))
      have a2 := at_eq h2 i (Nat.le_trans (dg_small h1.b2 (k := 10) (by omega)) (by omega))
      generalize memN b R1 O1 i = v1 at *
      generalize memN b R2 O2 i = v2 at *
      generalize seqD b R1 O1 = s1 at *
      generalize seqD b R2 O2 = s2 at *
      exact ⟨by simp [a1, a2, fl1, fl2], by simp⟩
  rw [c_law_1, q]
  congr 2
  by_cases w : N ≤ 200
  · rw [if_pos w, Nat.min_eq_left w, List.range_succ, List.filter_append, List.map_append]
    have e1 : (List.range N).filter (fun i => !decide (memN b R1 O1 i = memN b R2 O2 i)) = [] := by
      rw [List.filter_eq_nil_iff]
      intro n hn
      rw [List.mem_range] at hn
      simp [hs n hn]
    rw [e1]
    simp [hd]
  · rw [if_neg w]
    have e1 : (List.range (min N 200 + 1)).filter (fun i => !decide (memN b R1 O1 i = memN b R2 O2 i)) = [] := by
      rw [List.filter_eq_nil_iff]
      intro n hn
      rw [List.mem_range] at hn
      simp [hs n (by omega)]
    rw [e1]
    rfl
theorem isub_7 : isub [7] 7 = true := rfl
theorem refused_same {R1 R2 : List (List Int)} {O1 O2 : List Int} {b' : Nat} (hb : b ≠ b') : m_law_refused [.str "same", seqD b R1 O1, seqD b' R2 O2] = .ok (.bl true) := by
  have e := same_bases (R1 := R1) (R2 := R2) (O1 := O1) (O2 := O2) hb
  have q := strT "same"
  have u : ∀ Γ : Slots, u_law_refused_1 7 Γ = .rt (.bl true) := fun Γ => by
    simp [u_law_refused_1, show isub [0, 5, 6, 7] 7 = true from rfl, show isub [5] 7 = false from rfl]
  generalize seqD b R1 O1 = s1 at *
  generalize seqD b' R2 O2 = s2 at *
  simp [m_law_refused, g_law_refused, q, e, isub_7, u]
theorem refused_diff {R1 R2 : List (List Int)} {O1 O2 : List Int} {b' : Nat} (hb : b ≠ b') : m_law_refused [.str "differing", seqD b R1 O1, seqD b' R2 O2] = .ok (.bl true) := by
  have e := differing_bases (R1 := R1) (R2 := R2) (O1 := O1) (O2 := O2) hb
  have q := strF "differing" "same"
  have u : ∀ Γ : Slots, u_law_refused_1 7 Γ = .rt (.bl true) := fun Γ => by
    simp [u_law_refused_1, show isub [0, 5, 6, 7] 7 = true from rfl, show isub [5] 7 = false from rfl]
  generalize seqD b R1 O1 = s1 at *
  generalize seqD b' R2 O2 = s2 at *
  simp [m_law_refused, g_law_refused, q, e, isub_7, u]
/-- a strange sequence -/
theorem strange_eq {b' : Nat} (hb : 2 ≤ b' ∧ b' ≤ 4) : m_Sequence__init_ [.int b', .lst [eT (List.replicate b' 0)], .lst [.int 0]] = .ok (seqD b' [List.replicate b' 0] [0]) := by
  have h : Ok b' [List.replicate b' 0] [0] := by
    refine ⟨hb.1, hb.2, by simp, by simp, fun r hr => ?_, rfl, fun o ho => ?_⟩
    · rw [List.mem_singleton.mp hr]
      refine ⟨by simp, fun s hs => ?_⟩
      rw [List.eq_of_mem_replicate hs]
      exact ⟨by omega, by simp⟩
    · rw [List.mem_singleton.mp ho]; omega
  refine init_eq h (Quiet.of0 ?_) (v := .lst [eT (List.replicate b' 0)]) (o := .lst [.int 0]) ⟨⟨eT, .inl rfl, .inl rfl⟩, .inr rfl⟩
  have := h.step h.in0 (show 0 < b' by omega)
  obtain ⟨h1, h2⟩ := this
  simp at h2
  omega
end
theorem catT3 {x y z : List D} (h : x.length + y.length + z.length ≤ 16777216) : (catT (.tup x) (.tup y)).bind (fun a => catT a (.tup z)) = .ok (.tup (x ++ y ++ z)) := by
  rw [catT_ok (by omega), Res.bind_ok, catT_ok (by rw [List.length_append]; omega)]
theorem shapedL (xs : List Int) : SeqAt.shaped (.list (xs.map PyData.int)) = true := shaped_of (n := 1) (by simp [PyData.canLay0, canLay_map (p := PyData.int) (fun _ => by simp [PyData.canLay0])]) (by
  have := depth_map (p := PyData.int) (n := 0) (fun _ => by simp [PyData.depth]) xs
  simp only [PyData.depth]
  omega) (by omega)
theorem shapedP (N : Int) : SeqAt.shaped (.tuple [.list [.int N], .list []]) = true := shaped_of (n := 2) (by simp [PyData.canLay0, PyData.canLayAll0]) (by simp [PyData.depth, PyData.depthAll]) (by omega)
theorem nin_one (N : Int) : ninDpT (.lst [.int N]) (.tup [.lst [.int N], .lst []]) = .ok (.bl false) := by
  show (if SeqAt.shaped (.list [.int N]) = true ∧ SeqAt.shaped (.tuple [.list [.int N], .list []]) = true then Res.ok (D.bl (!List.any [PyData.list [.int N], .list []] fun z => PyData.eqv z (.list [.int N]))) else .stuck) = _
  rw [if_pos ⟨shapedL [N], shapedP N⟩]
  simp [PyData.eqv, PyData.eqvAll]
theorem nin_nil (N : Int) : ninDpT (.lst []) (.tup [.lst [.int N], .lst []]) = .ok (.bl false) := by
  show (if SeqAt.shaped (.list []) = true ∧ SeqAt.shaped (.tuple [.list [.int N], .list []]) = true then Res.ok (D.bl (!List.any [PyData.list [.int N], .list []] fun z => PyData.eqv z (.list []))) else .stuck) = _
  rw [if_pos ⟨shapedL [], shapedP N⟩]
  simp [PyData.eqv, PyData.eqvAll]
theorem law_true (ns : List Int) (hl : ns.length ≤ 63) : m_law [.scr ns] = .ok (.bl true) := by
  obtain ⟨ds, d1, d2, d3⟩ := law_draws_eq ns 60 hl (by omega)
  have dn : ∀ i : Nat, i < 60 → ∃ v : Nat, getN ds i = (v : Int) ∧ v < 65521 ∧ FL.getD (.lst (ds.map D.int)) (.int (i : Nat)) = .ok (.int (v : Nat)) := fun i hi => by
    have g := getD_ints (ds := ds) (i := (i : Nat)) (by omega) (by omega)
    obtain ⟨h1, h2⟩ := d3 _ (getN_mem (ds := ds) (i := (i : Nat)) (by omega) (by omega))
    refine ⟨(getN ds i).toNat, by omega, by omega, ?_⟩
    rw [g]
    congr 2
    omega
  obtain ⟨v55, _, _, g55⟩ := dn 55 (by omega)
  obtain ⟨v40, _, _, g40⟩ := dn 40 (by omega)
  obtain ⟨v41, _, _, g41⟩ := dn 41 (by omega)
  obtain ⟨v42, _, _, g42⟩ := dn 42 (by omega)
  have g55 : FL.getD (.lst (ds.map D.int)) (.int 55) = .ok (.int (v55 : Nat)) := g55
  have g40 : FL.getD (.lst (ds.map D.int)) (.int 40) = .ok (.int (v40 : Nat)) := g40
  have g41 : FL.getD (.lst (ds.map D.int)) (.int 41) = .ok (.int (v41 : Nat)) := g41
  have g42 : FL.getD (.lst (ds.map D.int)) (.int 42) = .ok (.int (v42 : Nat)) := g42
  obtain ⟨most, gm, hm⟩ : ∃ most : Nat, FL.getD (.lst [.int 12, .int 120]) (.int (if (v55 : Int) % 20 = 0 then 1 else 0)) = .ok (.int most) ∧ (0 < most ∧ most ≤ 1000) := by
    by_cases q : (v55 : Int) % 20 = 0
    · exact ⟨120, by rw [if_pos q]; rfl, by omega⟩
    · exact ⟨12, by rw [if_neg q]; rfl, by omega⟩
  obtain ⟨b, m, δ, o, r1, r2, r3, r4, r5, r6, r7, r8⟩ := law_drawn_eq ds most d3 (by omega) (by omega) hm
  have b2 : 2 ≤ b := by
    have := Int.emod_nonneg (getN ds 0) (show (3 : Int) ≠ 0 by decide)
    omega
  have h : Ok b (tabD b δ m) (outD o m) := tabD_ok ⟨b2, r3⟩ ⟨r4, by omega⟩ r6 fun s _ => r8 s
  have q0 : stepN (tabD b δ m) 0 0 = 0 := by
    have := tabD_step (δ := δ) r4 (show 0 < b by omega)
    rw [r7] at this
    exact this
  have lR : (tabD b δ m).length = m := by simp [tabD]
  generalize tabD b δ m = R at *
  generalize outD o m = O at *
  have hq : Quiet b R O := Quiet.of0 q0
  have ini := init_eq h hq (v := eTT R) (o := eT O) ⟨⟨eT, .inl rfl, .inr rfl⟩, .inl rfl⟩
  obtain ⟨Q, f, m', δ', a', F⟩ := foldS_ex h
  have le := least_eq h hq F
  have ll := law_least_eq h F
  obtain ⟨T, hT⟩ : ∃ T, tabS b δ' m' = T := ⟨_, rfl⟩
  obtain ⟨A, hA⟩ : ∃ A, outS a' m' = A := ⟨_, rfl⟩
  rw [hT, hA] at le ll
  have fl := fld_seq b R O
  have flT := fld_seq b T A
  have m3 : ∀ x y z : D, mkTup [x, y, z] = .ok (.tup [x, y, z]) := fun x y z => mkTup_ok (by simp)
  have m2 : ∀ x y : D, mkTup [x, y] = .ok (.tup [x, y]) := fun x y => mkTup_ok (by simp)
  have m1 : ∀ x : D, mkTup [x] = .ok (.tup [x]) := fun x => mkTup_ok (by simp)
  have l2 : ∀ x y : D, mkLst [x, y] = .ok (.lst [x, y]) := fun x y => mkLst_ok (by simp)
  have l1 : ∀ x : D, mkLst [x] = .ok (.lst [x]) := fun x => mkLst_ok (by simp)
  have l0 : mkLst [] = .ok (.lst []) := mkLst_ok (by simp)
  have ct1 : catT (.tup [.int b]) (.tup [eTT T, eT A]) = .ok (.tup [.int b, eTT T, eT A]) := catT_ok (by simp)
  have ne3 : neD (.tup [.int b, eTT T, eT A]) (.tup [.int b, eTT T, eT A]) = .ok (.bl false) := RefD.ne (n := 3) (ref_tup fun d hd => by
    simp only [List.mem_cons, List.mem_singleton, List.not_mem_nil, or_false] at hd
    rcases hd with rfl | rfl | rfl
    · exact (ref_int _).mono (by omega)
    · exact ok_TT.ref T
    · exact (ok_T.ref A).mono (by omega))
  have ne2 : neD (.tup [eTT T, eT A]) (.tup [eTT T, eT A]) = .ok (.bl false) := RefD.ne (n := 3) (ref_tup fun d hd => by
    simp only [List.mem_cons, List.mem_singleton, List.not_mem_nil, or_false] at hd
    rcases hd with rfl | rfl
    · exact ok_TT.ref T
    · exact (ok_T.ref A).mono (by omega))
  have lT : lenD [eTT R] = .ok (.int m) := by show Res.ok (D.int ((R.map eT).length : Nat)) = _; rw [List.length_map, lR]
  have md20 : modD (.int v55) (.int 20) = .ok (.int ((v55 : Int) % 20)) := x_mod _ _ (by omega)
  have d1 : m_law_draws [.scr ns, .int 60] = .ok (.lst (ds.map D.int)) := d1
  by_cases big : 12 < m
  · have big' : (12 : Int) < m := by omega
    generalize seqD b R O = sq at *
    generalize seqD b T A = sT at *
    generalize eTT R = tR at *
    generalize eTT T = tT at *
    generalize eT O = tO at *
    generalize eT A = tA at *
    generalize D.lst (ds.map D.int) = dl at *
    simp [m_law, g_law, d1, g55, md20, gm, l2, r1, ini, ll, le, fl, flT, m3, m1, ct1, ne3, lT, big, big']
  · have big' : ¬ (12 : Int) < m := by omega
    have b0 : 0 < b := by omega
    have c20 : slL (.lst (ds.map D.int)) (some 20) none = .ok (.lst ((ds.drop 20).map D.int)) := by
      rw [x_slL, show (20 : Int) = ((20 : Nat) : Int) from rfl, cut_from, List.map_drop]
    have c43 : slL (.lst (ds.map D.int)) (some 43) none = .ok (.lst ((ds.drop 43).map D.int)) := by
      rw [x_slL, show (43 : Int) = ((43 : Nat) : Int) from rfl, cut_from, List.map_drop]
    -- doubled
    have dbe := law_doubled_eq h (ds.drop 20) (by rw [List.length_drop]; omega) (by omega)
    have hk2 := dbl_ok h (ds.drop 20) (by omega)
    have sm2 : ∀ (u : List Nat), (∀ j ∈ u, j < b) → ∀ s, Rg (dbl (ds.drop 20) b R (2 * R.length)) s → getN (O ++ O) (u.foldl (stepN (dbl (ds.drop 20) b R (2 * R.length))) s) = getN O (u.foldl (stepN R) (s % R.length)) := fun u hu s hs => dbl_same h (ds.drop 20) (by omega) u hu hs
    have st2 : stepN (dbl (ds.drop 20) b R (2 * R.length)) 0 0 % R.length = 0 := by
      have e : stepN (dbl (ds.drop 20) b R (2 * R.length)) ((0 : Nat) : Int) 0 = _ := dbl_step (by omega) b0
      have e2 := (dbl_in h (ds.drop 20) (s := 0) b0).2.2
      rw [← e] at e2
      have e3 : stepN R ((0 % R.length : Nat) : Int) 0 = stepN R 0 0 := by rw [Nat.zero_mod]; rfl
      rw [e3, q0] at e2
      exact e2
    generalize dbl (ds.drop 20) b R (2 * R.length) = R2 at *
    obtain ⟨O2, hO2⟩ : ∃ O2, O ++ O = O2 := ⟨_, rfl⟩
    rw [hO2] at dbe hk2 sm2
    have hq2 : Quiet b R2 O2 := fun u hu => by
      unfold diffW diffP
      rw [fold2]
      show (!decide (getN O2 (u.foldl (stepN R2) 0) = getN O2 (u.foldl (stepN R2) (stepN R2 0 0)))) = false
      rw [sm2 u hu 0 hk2.in0, sm2 u hu _ (hk2.step hk2.in0 b0), st2]
      simp
    have dif2 : ∀ u : List Nat, (∀ j ∈ u, j < b) → diffW R R2 O O2 0 0 u = false := fun u hu => by
      rw [diff_out, sm2 u hu 0 hk2.in0]
      simp
    have ini2 := init_eq hk2 hq2 (v := eLT R2) (o := .lst (O2.map D.int)) ⟨⟨eT, .inl rfl, .inl rfl⟩, .inr rfl⟩
    obtain ⟨Q2, f2, m2', d2', a2', F2⟩ := foldS_ex hk2
    have le2 := least_eq hk2 hq2 F2
    obtain ⟨eT2, eA2⟩ := same_least F F2 dif2
    rw [← eT2, ← eA2, hT, hA] at le2
    obtain ⟨o2, sa2, fo2⟩ := same_eq h hk2 hq hq2
    obtain ⟨o2', di2, fo2'⟩ := differing_eq h hk2 hq hq2
    have n2 : o2 = none := FirstIs.unique fo2 (o' := none) dif2
    have n2' : o2' = none := FirstIs.unique fo2' (o' := none) dif2
    subst n2
    subst n2'
    have sa2 : m_same [seqD b R O, seqD b R2 O2] = .ok (.bl true) := sa2
    have di2 : m_differing [seqD b R O, seqD b R2 O2] = .ok .non := di2
    -- changed
    have mp : (0 : Int) < m := by omega
    obtain ⟨k, hk⟩ : ∃ k, v40 % m = k := ⟨_, rfl⟩
    have hkm : k < m := by rw [← hk]; exact Nat.mod_lt _ r4
    have md40 : modD (.int v40) (.int m) = .ok (.int (k : Nat)) := by rw [x_mod _ _ mp, ← hk]; simp
    have md41 : modD (.int v41) (.int 10) = .ok (.int ((v41 : Int) % 10)) := x_mod _ _ (by omega)
    obtain ⟨Oc, hOc⟩ : ∃ Oc, O.take k ++ [(v41 : Int) % 10] ++ O.drop (k + 1) = Oc := ⟨_, rfl⟩
    have ol := h.olen
    have t1 : slT (eT O) none (some (k : Nat)) = .ok (eT (O.take k)) := by rw [x_slT, cut_to, ← List.map_take]
    have t2 : slT (eT O) (some ((k : Nat) + 1 : Int)) none = .ok (eT (O.drop (k + 1))) := by
      rw [x_slT, show ((k : Nat) + 1 : Int) = ((k + 1 : Nat) : Int) by omega, cut_from, ← List.map_drop]
    have t3 : catT (eT (O.take k)) (.tup [.int ((v41 : Int) % 10)]) = .ok (eT (O.take k ++ [(v41 : Int) % 10])) := by
      rw [catT_ok (by simp; omega), eT, List.map_append]; rfl
    have t4 : catT (eT (O.take k ++ [(v41 : Int) % 10])) (eT (O.drop (k + 1))) = .ok (eT Oc) := by
      rw [catT_ok (by simp; omega), ← hOc, eT, List.map_append (l₁ := O.take k ++ [(v41 : Int) % 10])]
    have hkc : Ok b R Oc := by
      refine ⟨h.b2, h.b4, h.pos, h.top, h.rows, ?_, fun x hx => ?_⟩
      · rw [← hOc]; simp; omega
      · rw [← hOc] at hx
        rcases List.mem_append.mp hx with hx | hx
        · rcases List.mem_append.mp hx with hx | hx
          · exact h.outs x (List.mem_of_mem_take hx)
          · rw [List.mem_singleton.mp hx]; omega
        · exact h.outs x (List.mem_of_mem_drop hx)
    -- the second one
    have ct43 : catL (.lst [.int ((b : Int) - 2)]) (.lst ((ds.drop 43).map D.int)) = .ok (.lst ((((b : Int) - 2) :: ds.drop 43).map D.int)) := by
      rw [catL_ok (by simp; omega)]
      rfl
    have k3 : ∃ R3 O3, Ok b R3 O3 ∧ Quiet b R3 O3 ∧ ((((v42 : Int) % 2 = 0) ∧ m_law_drawn [.lst ((((b : Int) - 2) :: ds.drop 43).map D.int), .int 8] = .ok (.tup [.int b, eTT R3, eT O3])) ∨ (¬ ((v42 : Int) % 2 = 0) ∧ R3 = R ∧ O3 = Oc)) := by
      by_cases q : (v42 : Int) % 2 = 0
      · obtain ⟨b3, m3, δ3, o3, s1, s2, s3, s4, s5, s6, s7, s8⟩ := law_drawn_eq (((b : Int) - 2) :: ds.drop 43) 8 (fun d hd => by
          rcases List.mem_cons.mp hd with rfl | hd
          · omega
          · exact d3 d (List.mem_of_mem_drop hd)) (by rw [List.length_cons, List.length_drop]; omega) (by rw [List.length_cons, List.length_drop]; omega) (by omega)
        have eb : b3 = b := by
          have : getN (((b : Int) - 2) :: ds.drop 43) 0 = (b : Int) - 2 := rfl
          rw [this] at s2
          omega
        subst eb
        refine ⟨tabD b3 δ3 m3, outD o3 m3, tabD_ok ⟨b2, r3⟩ ⟨s4, by omega⟩ s6 fun s _ => s8 s, Quiet.of0 ?_, .inl ⟨q, s1⟩⟩
        have := tabD_step (δ := δ3) s4 (show 0 < b3 by omega)
        rw [s7] at this
        exact this
      · exact ⟨R, Oc, hkc, Quiet.of0 q0, .inr ⟨q, rfl, rfl⟩⟩
    obtain ⟨R3, O3, hk3, hq3, k3⟩ := k3
    have k3 : (((v42 : Int) % 2 = 0) ∧ m_law_drawn [.lst ((((b : Int) - 2) :: ds.drop 43).map D.int), .int 8] = .ok (.tup [.int b, eTT R3, eT O3])) ∨ (¬ ((v42 : Int) % 2 = 0) ∧ eTT R3 = eTT R ∧ eT O3 = eT Oc) := by
      rcases k3 with z | ⟨z1, rfl, rfl⟩
      · exact .inl z
      · exact .inr ⟨z1, rfl, rfl⟩
    have ini3 := init_eq hk3 hq3 (v := eTT R3) (o := eT O3) ⟨⟨eT, .inl rfl, .inr rfl⟩, .inl rfl⟩
    obtain ⟨o3, ld3, fo3⟩ := law_differing_eq h hk3
    obtain ⟨o4, sa3, fo4⟩ := same_eq h hk3 hq hq3
    obtain ⟨o5, di3, fo5⟩ := differing_eq h hk3 hq hq3
    have n4 := FirstIs.unique fo4 fo3
    have n5 := FirstIs.unique fo5 fo3
    subst n4
    subst n5
    have fl3 := fld_seq b R3 O3
    have pp0 : FL.getD (.tup [eTT R3, eT O3]) (.int 0) = .ok (eTT R3) := rfl
    have pp1 : FL.getD (.tup [eTT R3, eT O3]) (.int 1) = .ok (eT O3) := rfl
    have md42 : modD (.int v42) (.int 2) = .ok (.int ((v42 : Int) % 2)) := x_mod _ _ (by omega)
    -- a strange one
    obtain ⟨b', hb'⟩ : ∃ b' : Nat, 2 + (b - 1) % 3 = b' := ⟨_, rfl⟩
    have nb : b ≠ b' := by omega
    have hb4 : 2 ≤ b' ∧ b' ≤ 4 := by omega
    have stg := strange_eq hb4
    have mdb : modD (.int ((b : Int) - 1)) (.int 3) = .ok (.int ((b' : Int) - 2)) := by rw [x_mod _ _ (by omega), show ((b : Int) - 1) % 3 = (b' : Int) - 2 by omega]
    have ab : (2 : Int) + ((b' : Int) - 2) = b' := by omega
    have rep : repTA (.tup [.int 0]) (.int b') = .ok (eT (List.replicate b' 0)) := by
      rw [x_repTA _ _ (by simp; omega), Int.toNat_natCast]
      have : ∀ n : Nat, (List.replicate n [D.int 0]).flatten = (List.replicate n 0).map D.int := fun n => by
        induction n with
        | zero => rfl
        | succ n ih => rw [List.replicate_succ, List.flatten_cons, ih, List.replicate_succ]; rfl
      rw [this]
    have rf1 := refused_same (R1 := R) (O1 := O) (R2 := [List.replicate b' 0]) (O2 := [0]) nb
    have rf2 := refused_diff (R1 := R) (O1 := O) (R2 := [List.replicate b' 0]) (O2 := [0]) nb
    have isB : ∀ x : Bool, isiD [.bl x, .ty .bl] = .ok (.bl true) := fun x => rfl
    have g1 : ∀ x y z : D, FL.getD (.tup [x, y, z]) (.int 1) = .ok y := fun x y z => rfl
    have g2 : ∀ x y z : D, FL.getD (.tup [x, y, z]) (.int 2) = .ok z := fun x y z => rfl
    rcases o5 with _ | w
    · have ld3 : m_law_differing [.tup [eTT R, eT O], .tup [eTT R3, eT O3], .int b] = .ok .non := ld3
      have di3 : m_differing [seqD b R O, seqD b R3 O3] = .ok .non := di3
      have sa3 : m_same [seqD b R O, seqD b R3 O3] = .ok (.bl true) := sa3
      have nn : neD .non .non = .ok (.bl false) := RefD.ne ref_non
      generalize seqD b R O = sq at *
      generalize seqD b T A = sT at *
      generalize seqD b R2 O2 = sq2 at *
      generalize seqD b R3 O3 = sq3 at *
      generalize seqD b' [List.replicate b' 0] [0] = sq4 at *
      generalize eT (List.replicate b' 0) = rw0 at *
      generalize eTT R3 = tR3 at *
      generalize eT O3 = tO3 at *
      generalize eTT R = tR at *
      generalize eTT T = tT at *
      generalize eT (O.take k) = oT at *
      generalize eT (O.take k ++ [(v41 : Int) % 10]) = oT2 at *
      generalize eT (O.drop (k + 1)) = oD at *
      generalize eT Oc = tOc at *
      generalize eT O = tO at *
      generalize eT A = tA at *
      generalize eLT R2 = tR2 at *
      generalize O2.map D.int = tO2 at *
      generalize ((((b : Int) - 2) :: ds.drop 43).map D.int) = dl3 at *
      generalize (ds.drop 43).map D.int = dl2 at *
      generalize (ds.drop 20).map D.int = dl20 at *
      generalize D.lst (ds.map D.int) = dl at *
      rcases k3 with ⟨k1, k2⟩ | ⟨k1, e1, e2⟩
      · simp [m_law, g_law, d1, g55, md20, gm, l2, r1, ini, ll, le, fl, flT, m3, m2, m1, ct1, ne3, ne2, lT, big, big', c20, dbe, ini2, le2, sa2, di2, g40, g41, g42, md40, md41, t1, t2, t3, t4, md42, pp0, pp1, ini3, ld3, sa3, di3, isB, l1, l0, mdb, ab, rep, stg, rf1, rf2, nn, k1, c43, ct43, k2, g1, g2]
      · subst e1
        subst e2
        simp [m_law, g_law, d1, g55, md20, gm, l2, r1, ini, ll, le, fl, flT, m3, m2, m1, ct1, ne3, ne2, lT, big, big', c20, dbe, ini2, le2, sa2, di2, g40, g41, g42, md40, md41, t1, t2, t3, t4, md42, pp0, pp1, ini3, ld3, sa3, di3, isB, l1, l0, mdb, ab, rep, stg, rf1, rf2, nn, k1]
    · have ld3 : m_law_differing [.tup [eTT R, eT O], .tup [eTT R3, eT O3], .int b] = .ok (.int (valW b w : Nat)) := ld3
      have di3 : m_differing [seqD b R O, seqD b R3 O3] = .ok (.int (valW b w : Nat)) := di3
      have sa3 : m_same [seqD b R O, seqD b R3 O3] = .ok (.bl false) := sa3
      obtain ⟨_, f1, f2⟩ := first_num b2 hq hq3 fo5
      have lc := law_c1 h hk3 (valW b w) f1 f2
      have z1 := nin_one ((valW b w : Nat) : Int)
      have z2 := nin_nil ((valW b w : Nat) : Int)
      have sl1 : ∀ x : D, slL (.lst [x]) none (some 1) = .ok (.lst [x]) := fun x => rfl
      have sl0 : slL (.lst []) none (some 1) = .ok (.lst []) := rfl
      have z3 : (ninDpT (if valW b w ≤ 200 then .lst [.int ((valW b w : Nat) : Int)] else .lst []) (.tup [.lst [.int ((valW b w : Nat) : Int)], .lst []])) = .ok (.bl false) := by
        by_cases q : valW b w ≤ 200
        · rw [if_pos q]; exact z1
        · rw [if_neg q]; exact z2
      have z4 : slL (.lst (if valW b w ≤ 200 then [.int ((valW b w : Nat) : Int)] else [])) none (some 1) = .ok (if valW b w ≤ 200 then .lst [.int ((valW b w : Nat) : Int)] else .lst []) := by
        by_cases q : valW b w ≤ 200
        · rw [if_pos q, if_pos q]; rfl
        · rw [if_neg q, if_neg q]; rfl
      generalize (if valW b w ≤ 200 then [D.int ((valW b w : Nat) : Int)] else []) = cl at *
      generalize (if valW b w ≤ 200 then D.lst [.int ((valW b w : Nat) : Int)] else .lst []) = cl2 at *
      generalize ((valW b w : Nat) : Int) = N at *
      generalize seqD b R O = sq at *
      generalize seqD b T A = sT at *
      generalize seqD b R2 O2 = sq2 at *
      generalize seqD b R3 O3 = sq3 at *
      generalize seqD b' [List.replicate b' 0] [0] = sq4 at *
      generalize eT (List.replicate b' 0) = rw0 at *
      generalize eTT R3 = tR3 at *
      generalize eT O3 = tO3 at *
      generalize eTT R = tR at *
      generalize eTT T = tT at *
      generalize eT (O.take k) = oT at *
      generalize eT (O.take k ++ [(v41 : Int) % 10]) = oT2 at *
      generalize eT (O.drop (k + 1)) = oD at *
      generalize eT Oc = tOc at *
      generalize eT O = tO at *
      generalize eT A = tA at *
      generalize eLT R2 = tR2 at *
      generalize O2.map D.int = tO2 at *
      generalize ((((b : Int) - 2) :: ds.drop 43).map D.int) = dl3 at *
      generalize (ds.drop 43).map D.int = dl2 at *
      generalize (ds.drop 20).map D.int = dl20 at *
      generalize D.lst (ds.map D.int) = dl at *
      rcases k3 with ⟨k1, k2⟩ | ⟨k1, e1, e2⟩
      · simp [m_law, g_law, d1, g55, md20, gm, l2, r1, ini, ll, le, fl, flT, m3, m2, m1, ct1, ne3, ne2, lT, big, big', c20, dbe, ini2, le2, sa2, di2, g40, g41, g42, md40, md41, t1, t2, t3, t4, md42, pp0, pp1, ini3, ld3, sa3, di3, isB, l1, l0, mdb, ab, rep, stg, rf1, rf2, k1, c43, ct43, k2, g1, g2, lc, z4, z3]
      · subst e1
        subst e2
        simp [m_law, g_law, d1, g55, md20, gm, l2, r1, ini, ll, le, fl, flT, m3, m2, m1, ct1, ne3, ne2, lT, big, big', c20, dbe, ini2, le2, sa2, di2, g40, g41, g42, md40, md41, t1, t2, t3, t4, md42, pp0, pp1, ini3, ld3, sa3, di3, isB, l1, l0, mdb, ab, rep, stg, rf1, rf2, k1, lc, z4, z3]
end K22

/-! The end (printed by gen.py). -/
namespace K22
open PySem PySem.Spec PyProof.Rows L2 FL

def spLaw (K : PySem.W.Frag) : Sp := fun vs H Q _ => ∃ (a : Addr) (ns : List Int), vs = [.ref a] ∧ SqL K H a (ns.map V.int) ∧ ns.length ≤ 63 ∧ ∀ H', Q (.bl true) H'
theorem sp_law {K : PySem.W.Frag} {ce : CE} (vs : List V) (H : Hp) (Q : VK) (E : XK) (h : spLaw K vs H Q E) : SpV K ce 1 [false] m_law vs H Q E := by
  obtain ⟨a, ns, rfl, hS, hl, k⟩ := h
  refine ⟨H, [.scr ns], .refl H, rfl, ⟨_, [], rfl, ?_, rfl⟩, ?_⟩
  · rw [if_neg Bool.false_ne_true]
    unfold Rep
    exact ⟨a, rfl, hS⟩
  · rw [law_true ns hl]
    intro v F' H' x r
    unfold Rep at r
    rw [r]
    exact k H'
set_option maxHeartbeats 4000000 in
theorem all_mk {l : PySem.W.OpenLaw} {w : World} {K : PySem.W.Frag} {h : Heap} {mg : Str → Option Value} {fa C_Sequence C_BadSequence C_NotSteady C_OtherBase f_law_draws f_law_rows f_law_drawn f_parting_digits f_is_integer f_are_rows f_are_outputs f_Sequence__init_ f_law_numbers_I f_law_numbers_T f_law_least f_numbers_I f_numbers_T f_least_sequence f_law_doubled f_law_differing f_differing f_same f_law_refused f_digits_below f_Sequence_state f_Sequence_at f_law : Addr} {od_law_draws an_law_draws od_law_rows an_law_rows od_law_drawn an_law_drawn od_parting_digits an_parting_digits od_is_integer an_is_integer od_are_rows an_are_rows od_are_outputs an_are_outputs od_Sequence__init_ an_Sequence__init_ od_law_numbers_I an_law_numbers_I od_law_numbers_T an_law_numbers_T od_law_least an_law_least od_numbers_I an_numbers_I od_numbers_T an_numbers_T od_least_sequence an_least_sequence od_law_doubled an_law_doubled od_law_differing an_law_differing od_differing an_differing od_same an_same od_law_refused an_law_refused od_digits_below an_digits_below od_Sequence_state an_Sequence_state od_Sequence_at an_Sequence_at od_law an_law : Option Addr} {sl_law_draws sl_law_rows sl_law_drawn sl_parting_digits sl_is_integer sl_are_rows sl_are_outputs sl_Sequence__init_ sl_law_numbers_I sl_law_numbers_T sl_law_least sl_numbers_I sl_numbers_T sl_least_sequence sl_law_doubled sl_law_differing sl_differing sl_same sl_law_refused sl_digits_below sl_Sequence_state sl_Sequence_at sl_law : Array (Option Value)} {oc_law_draws kV_law_draws dc_law_draws pm_law_draws cd_law_draws ct_law_draws oc_law_rows kV_law_rows dc_law_rows pm_law_rows cd_law_rows ct_law_rows oc_law_drawn kV_law_drawn dc_law_drawn pm_law_drawn cd_law_drawn ct_law_drawn oc_parting_digits kV_parting_digits dc_parting_digits pm_parting_digits cd_parting_digits ct_parting_digits oc_is_integer kV_is_integer dc_is_integer pm_is_integer cd_is_integer ct_is_integer oc_are_rows kV_are_rows dc_are_rows pm_are_rows cd_are_rows ct_are_rows oc_are_outputs kV_are_outputs dc_are_outputs pm_are_outputs cd_are_outputs ct_are_outputs oc_Sequence__init_ kV_Sequence__init_ dc_Sequence__init_ pm_Sequence__init_ cd_Sequence__init_ ct_Sequence__init_ oc_law_numbers_I kV_law_numbers_I dc_law_numbers_I pm_law_numbers_I cd_law_numbers_I ct_law_numbers_I oc_law_numbers_T kV_law_numbers_T dc_law_numbers_T pm_law_numbers_T cd_law_numbers_T ct_law_numbers_T oc_law_least kV_law_least dc_law_least pm_law_least cd_law_least ct_law_least oc_numbers_I kV_numbers_I dc_numbers_I pm_numbers_I cd_numbers_I ct_numbers_I oc_numbers_T kV_numbers_T dc_numbers_T pm_numbers_T cd_numbers_T ct_numbers_T oc_least_sequence kV_least_sequence dc_least_sequence pm_least_sequence cd_least_sequence ct_least_sequence oc_law_doubled kV_law_doubled dc_law_doubled pm_law_doubled cd_law_doubled ct_law_doubled oc_law_differing kV_law_differing dc_law_differing pm_law_differing cd_law_differing ct_law_differing oc_differing kV_differing dc_differing pm_differing cd_differing ct_differing oc_same kV_same dc_same pm_same cd_same ct_same oc_law_refused kV_law_refused dc_law_refused pm_law_refused cd_law_refused ct_law_refused oc_digits_below kV_digits_below dc_digits_below pm_digits_below cd_digits_below ct_digits_below oc_Sequence_state kV_Sequence_state dc_Sequence_state pm_Sequence_state cd_Sequence_state ct_Sequence_state oc_Sequence_at kV_Sequence_at dc_Sequence_at pm_Sequence_at cd_Sequence_at ct_Sequence_at oc_law kV_law dc_law pm_law cd_law ct_law : Value} {t_MOST_OUTPUT : PySem.Tok} {t_MOST_STATES : PySem.Tok} (X : K.In h) (G : h.Ns mainGlobals mg) (hfa : mg "law" = some (.ref fa))
    (aC_Sequence : PySem.W.nsIn K mainGlobals "Sequence" = some (some (.ref C_Sequence)))
    (pg_Sequence : PySem.W.plainGet K C_Sequence Str.empty = true)
    (hd_Sequence : PySem.W.hasDictIn K C_Sequence = true)
    (po_Sequence : PySem.W.plainOver K C_Sequence = true)
    (sa_Sequence : PySem.W.findIn K (.ref C_Sequence) "__setattr__" = some (some (.builtin "object.__setattr__")))
    (mk_Sequence : PySem.W.makesIn K C_Sequence = true)
    (kc_Sequence : PySem.W.keepIn K (.ref C_Sequence) = true)
    (aC_BadSequence : PySem.W.nsIn K mainGlobals "BadSequence" = some (some (.ref C_BadSequence)))
    (aC_NotSteady : PySem.W.nsIn K mainGlobals "NotSteady" = some (some (.ref C_NotSteady)))
    (aC_OtherBase : PySem.W.nsIn K mainGlobals "OtherBase" = some (some (.ref C_OtherBase)))
    (b_BadSequence : PySem.W.subIn K (.ref C_BadSequence) (.type "BaseException") = some true)
    (t_BadSequence : PySem.W.typeIn K (.ref C_BadSequence) = some (.type "type"))
    (hd_BadSequence : PySem.W.hasDictIn K C_BadSequence = true)
    (b_NotSteady : PySem.W.subIn K (.ref C_NotSteady) (.type "BaseException") = some true)
    (t_NotSteady : PySem.W.typeIn K (.ref C_NotSteady) = some (.type "type"))
    (hd_NotSteady : PySem.W.hasDictIn K C_NotSteady = true)
    (b_OtherBase : PySem.W.subIn K (.ref C_OtherBase) (.type "BaseException") = some true)
    (t_OtherBase : PySem.W.typeIn K (.ref C_OtherBase) = some (.type "type"))
    (hd_OtherBase : PySem.W.hasDictIn K C_OtherBase = true)
    (x_BadSequence : PySem.W.excIn K C_BadSequence [.type "ValueError", .type "Exception", .type "BaseException", .type "object"] "ValueError.__new__" = true)
    (kc_BadSequence : PySem.W.keepIn K (.ref C_BadSequence) = true)
    (x_NotSteady : PySem.W.excIn K C_NotSteady [.type "ValueError", .type "Exception", .type "BaseException", .type "object"] "ValueError.__new__" = true)
    (kc_NotSteady : PySem.W.keepIn K (.ref C_NotSteady) = true)
    (x_OtherBase : PySem.W.excIn K C_OtherBase [.type "ValueError", .type "Exception", .type "BaseException", .type "object"] "ValueError.__new__" = true)
    (kc_OtherBase : PySem.W.keepIn K (.ref C_OtherBase) = true)
    (su_OtherBase_OtherBase : PySem.W.subIn K (.ref C_OtherBase) (.ref C_OtherBase) = some true)
    (e1_OtherBase : PySem.W.findIn K (.ref C_OtherBase) "__getattribute__" = some (some (.builtin "BaseException.__getattribute__")))
    (e2_OtherBase : PySem.W.findIn K (.ref C_OtherBase) "__getattr__" = some none)
    (e3_OtherBase : PySem.W.findIn K (.ref C_OtherBase) "__class__" = some (some (.builtin "object.__class__")))
    (e4_OtherBase : PySem.W.mroIn K C_OtherBase (.type "object") = some true)
    (e5 : PySem.W.specialIn K (.builtin "object.__class__") "__get__" = some (some (.builtin "getset_descriptor.__get__")))
    (e6 : PySem.W.takesIn K (.builtin "object.__class__") = some true)
    (ks_OtherBase_BadSequence : PySem.W.subIn K (.ref C_OtherBase) (.ref C_BadSequence) = some false)
    (nk_OtherBase_BadSequence : decide (C_OtherBase = C_BadSequence) = false)
    (ks_OtherBase_ValueError : PySem.W.subIn K (.ref C_OtherBase) (.type "ValueError") = some true)
    (a_law_draws : PySem.W.nsIn K mainGlobals "_law_draws" = some (some (.ref f_law_draws)))
    (l_law_draws : K.lookup f_law_draws = some ⟨oc_law_draws, od_law_draws, .func (PySem.W.fnOf "_law_draws" "_law_draws" (defArgs s_law_draws) (defBody s_law_draws) (defScope s_law_draws) .none kV_law_draws dc_law_draws pm_law_draws an_law_draws cd_law_draws ct_law_draws), sl_law_draws⟩)
    (c_law_draws : PySem.W.codeIn K cd_law_draws "_law_draws" = true)
    (k_law_draws : PySem.W.keepIn K (.ref f_law_draws) = true)
    (a_law_rows : PySem.W.nsIn K mainGlobals "_law_rows" = some (some (.ref f_law_rows)))
    (l_law_rows : K.lookup f_law_rows = some ⟨oc_law_rows, od_law_rows, .func (PySem.W.fnOf "_law_rows" "_law_rows" (defArgs s_law_rows) (defBody s_law_rows) (defScope s_law_rows) .none kV_law_rows dc_law_rows pm_law_rows an_law_rows cd_law_rows ct_law_rows), sl_law_rows⟩)
    (c_law_rows : PySem.W.codeIn K cd_law_rows "_law_rows" = true)
    (k_law_rows : PySem.W.keepIn K (.ref f_law_rows) = true)
    (a_law_drawn : PySem.W.nsIn K mainGlobals "_law_drawn" = some (some (.ref f_law_drawn)))
    (l_law_drawn : K.lookup f_law_drawn = some ⟨oc_law_drawn, od_law_drawn, .func (PySem.W.fnOf "_law_drawn" "_law_drawn" (defArgs s_law_drawn) (defBody s_law_drawn) (defScope s_law_drawn) .none kV_law_drawn dc_law_drawn pm_law_drawn an_law_drawn cd_law_drawn ct_law_drawn), sl_law_drawn⟩)
    (c_law_drawn : PySem.W.codeIn K cd_law_drawn "_law_drawn" = true)
    (k_law_drawn : PySem.W.keepIn K (.ref f_law_drawn) = true)
    (a_parting_digits : PySem.W.nsIn K mainGlobals "parting_digits" = some (some (.ref f_parting_digits)))
    (l_parting_digits : K.lookup f_parting_digits = some ⟨oc_parting_digits, od_parting_digits, .func (PySem.W.fnOf "parting_digits" "parting_digits" (defArgs s_parting_digits) (defBody s_parting_digits) (defScope s_parting_digits) .none kV_parting_digits dc_parting_digits pm_parting_digits an_parting_digits cd_parting_digits ct_parting_digits), sl_parting_digits⟩)
    (c_parting_digits : PySem.W.codeIn K cd_parting_digits "parting_digits" = true)
    (k_parting_digits : PySem.W.keepIn K (.ref f_parting_digits) = true)
    (a_is_integer : PySem.W.nsIn K mainGlobals "is_integer" = some (some (.ref f_is_integer)))
    (l_is_integer : K.lookup f_is_integer = some ⟨oc_is_integer, od_is_integer, .func (PySem.W.fnOf "is_integer" "is_integer" (defArgs s_is_integer) (defBody s_is_integer) (defScope s_is_integer) .none kV_is_integer dc_is_integer pm_is_integer an_is_integer cd_is_integer ct_is_integer), sl_is_integer⟩)
    (c_is_integer : PySem.W.codeIn K cd_is_integer "is_integer" = true)
    (k_is_integer : PySem.W.keepIn K (.ref f_is_integer) = true)
    (a_are_rows : PySem.W.nsIn K mainGlobals "are_rows" = some (some (.ref f_are_rows)))
    (l_are_rows : K.lookup f_are_rows = some ⟨oc_are_rows, od_are_rows, .func (PySem.W.fnOf "are_rows" "are_rows" (defArgs s_are_rows) (defBody s_are_rows) (defScope s_are_rows) .none kV_are_rows dc_are_rows pm_are_rows an_are_rows cd_are_rows ct_are_rows), sl_are_rows⟩)
    (c_are_rows : PySem.W.codeIn K cd_are_rows "are_rows" = true)
    (k_are_rows : PySem.W.keepIn K (.ref f_are_rows) = true)
    (a_are_outputs : PySem.W.nsIn K mainGlobals "are_outputs" = some (some (.ref f_are_outputs)))
    (l_are_outputs : K.lookup f_are_outputs = some ⟨oc_are_outputs, od_are_outputs, .func (PySem.W.fnOf "are_outputs" "are_outputs" (defArgs s_are_outputs) (defBody s_are_outputs) (defScope s_are_outputs) .none kV_are_outputs dc_are_outputs pm_are_outputs an_are_outputs cd_are_outputs ct_are_outputs), sl_are_outputs⟩)
    (c_are_outputs : PySem.W.codeIn K cd_are_outputs "are_outputs" = true)
    (k_are_outputs : PySem.W.keepIn K (.ref f_are_outputs) = true)
    (a_Sequence__init_ : PySem.W.findIn K (.ref C_Sequence) "__init__" = some (some (.ref f_Sequence__init_)))
    (i_Sequence__init_ : PySem.W.isFn K (.ref f_Sequence__init_) = true)
    (l_Sequence__init_ : K.lookup f_Sequence__init_ = some ⟨oc_Sequence__init_, od_Sequence__init_, .func (PySem.W.fnOf "__init__" "Sequence.__init__" (defArgs s_Sequence__init_) (defBody s_Sequence__init_) (defScope s_Sequence__init_) .none kV_Sequence__init_ dc_Sequence__init_ pm_Sequence__init_ an_Sequence__init_ cd_Sequence__init_ ct_Sequence__init_), sl_Sequence__init_⟩)
    (c_Sequence__init_ : PySem.W.codeIn K cd_Sequence__init_ "Sequence.__init__" = true)
    (k_Sequence__init_ : PySem.W.keepIn K (.ref f_Sequence__init_) = true)
    (a_law_numbers_I : PySem.W.nsIn K mainGlobals "_law_numbers" = some (some (.ref f_law_numbers_I)))
    (l_law_numbers_I : K.lookup f_law_numbers_I = some ⟨oc_law_numbers_I, od_law_numbers_I, .func (PySem.W.fnOf "_law_numbers" "_law_numbers" (defArgs s_law_numbers_I) (defBody s_law_numbers_I) (defScope s_law_numbers_I) .none kV_law_numbers_I dc_law_numbers_I pm_law_numbers_I an_law_numbers_I cd_law_numbers_I ct_law_numbers_I), sl_law_numbers_I⟩)
    (c_law_numbers_I : PySem.W.codeIn K cd_law_numbers_I "_law_numbers" = true)
    (k_law_numbers_I : PySem.W.keepIn K (.ref f_law_numbers_I) = true)
    (a_law_numbers_T : PySem.W.nsIn K mainGlobals "_law_numbers" = some (some (.ref f_law_numbers_T)))
    (l_law_numbers_T : K.lookup f_law_numbers_T = some ⟨oc_law_numbers_T, od_law_numbers_T, .func (PySem.W.fnOf "_law_numbers" "_law_numbers" (defArgs s_law_numbers_T) (defBody s_law_numbers_T) (defScope s_law_numbers_T) .none kV_law_numbers_T dc_law_numbers_T pm_law_numbers_T an_law_numbers_T cd_law_numbers_T ct_law_numbers_T), sl_law_numbers_T⟩)
    (c_law_numbers_T : PySem.W.codeIn K cd_law_numbers_T "_law_numbers" = true)
    (k_law_numbers_T : PySem.W.keepIn K (.ref f_law_numbers_T) = true)
    (a_law_least : PySem.W.nsIn K mainGlobals "_law_least" = some (some (.ref f_law_least)))
    (l_law_least : K.lookup f_law_least = some ⟨oc_law_least, od_law_least, .func (PySem.W.fnOf "_law_least" "_law_least" (defArgs s_law_least) (defBody s_law_least) (defScope s_law_least) .none kV_law_least dc_law_least pm_law_least an_law_least cd_law_least ct_law_least), sl_law_least⟩)
    (c_law_least : PySem.W.codeIn K cd_law_least "_law_least" = true)
    (k_law_least : PySem.W.keepIn K (.ref f_law_least) = true)
    (a_numbers_I : PySem.W.nsIn K mainGlobals "_numbers" = some (some (.ref f_numbers_I)))
    (l_numbers_I : K.lookup f_numbers_I = some ⟨oc_numbers_I, od_numbers_I, .func (PySem.W.fnOf "_numbers" "_numbers" (defArgs s_numbers_I) (defBody s_numbers_I) (defScope s_numbers_I) .none kV_numbers_I dc_numbers_I pm_numbers_I an_numbers_I cd_numbers_I ct_numbers_I), sl_numbers_I⟩)
    (c_numbers_I : PySem.W.codeIn K cd_numbers_I "_numbers" = true)
    (k_numbers_I : PySem.W.keepIn K (.ref f_numbers_I) = true)
    (a_numbers_T : PySem.W.nsIn K mainGlobals "_numbers" = some (some (.ref f_numbers_T)))
    (l_numbers_T : K.lookup f_numbers_T = some ⟨oc_numbers_T, od_numbers_T, .func (PySem.W.fnOf "_numbers" "_numbers" (defArgs s_numbers_T) (defBody s_numbers_T) (defScope s_numbers_T) .none kV_numbers_T dc_numbers_T pm_numbers_T an_numbers_T cd_numbers_T ct_numbers_T), sl_numbers_T⟩)
    (c_numbers_T : PySem.W.codeIn K cd_numbers_T "_numbers" = true)
    (k_numbers_T : PySem.W.keepIn K (.ref f_numbers_T) = true)
    (a_least_sequence : PySem.W.nsIn K mainGlobals "least_sequence" = some (some (.ref f_least_sequence)))
    (l_least_sequence : K.lookup f_least_sequence = some ⟨oc_least_sequence, od_least_sequence, .func (PySem.W.fnOf "least_sequence" "least_sequence" (defArgs s_least_sequence) (defBody s_least_sequence) (defScope s_least_sequence) .none kV_least_sequence dc_least_sequence pm_least_sequence an_least_sequence cd_least_sequence ct_least_sequence), sl_least_sequence⟩)
    (c_least_sequence : PySem.W.codeIn K cd_least_sequence "least_sequence" = true)
    (k_least_sequence : PySem.W.keepIn K (.ref f_least_sequence) = true)
    (a_law_doubled : PySem.W.nsIn K mainGlobals "_law_doubled" = some (some (.ref f_law_doubled)))
    (l_law_doubled : K.lookup f_law_doubled = some ⟨oc_law_doubled, od_law_doubled, .func (PySem.W.fnOf "_law_doubled" "_law_doubled" (defArgs s_law_doubled) (defBody s_law_doubled) (defScope s_law_doubled) .none kV_law_doubled dc_law_doubled pm_law_doubled an_law_doubled cd_law_doubled ct_law_doubled), sl_law_doubled⟩)
    (c_law_doubled : PySem.W.codeIn K cd_law_doubled "_law_doubled" = true)
    (k_law_doubled : PySem.W.keepIn K (.ref f_law_doubled) = true)
    (a_law_differing : PySem.W.nsIn K mainGlobals "_law_differing" = some (some (.ref f_law_differing)))
    (l_law_differing : K.lookup f_law_differing = some ⟨oc_law_differing, od_law_differing, .func (PySem.W.fnOf "_law_differing" "_law_differing" (defArgs s_law_differing) (defBody s_law_differing) (defScope s_law_differing) .none kV_law_differing dc_law_differing pm_law_differing an_law_differing cd_law_differing ct_law_differing), sl_law_differing⟩)
    (c_law_differing : PySem.W.codeIn K cd_law_differing "_law_differing" = true)
    (k_law_differing : PySem.W.keepIn K (.ref f_law_differing) = true)
    (a_differing : PySem.W.nsIn K mainGlobals "differing" = some (some (.ref f_differing)))
    (l_differing : K.lookup f_differing = some ⟨oc_differing, od_differing, .func (PySem.W.fnOf "differing" "differing" (defArgs s_differing) (defBody s_differing) (defScope s_differing) .none kV_differing dc_differing pm_differing an_differing cd_differing ct_differing), sl_differing⟩)
    (c_differing : PySem.W.codeIn K cd_differing "differing" = true)
    (k_differing : PySem.W.keepIn K (.ref f_differing) = true)
    (a_same : PySem.W.nsIn K mainGlobals "same" = some (some (.ref f_same)))
    (l_same : K.lookup f_same = some ⟨oc_same, od_same, .func (PySem.W.fnOf "same" "same" (defArgs s_same) (defBody s_same) (defScope s_same) .none kV_same dc_same pm_same an_same cd_same ct_same), sl_same⟩)
    (c_same : PySem.W.codeIn K cd_same "same" = true)
    (k_same : PySem.W.keepIn K (.ref f_same) = true)
    (a_law_refused : PySem.W.nsIn K mainGlobals "_law_refused" = some (some (.ref f_law_refused)))
    (l_law_refused : K.lookup f_law_refused = some ⟨oc_law_refused, od_law_refused, .func (PySem.W.fnOf "_law_refused" "_law_refused" (defArgs s_law_refused) (defBody s_law_refused) (defScope s_law_refused) .none kV_law_refused dc_law_refused pm_law_refused an_law_refused cd_law_refused ct_law_refused), sl_law_refused⟩)
    (c_law_refused : PySem.W.codeIn K cd_law_refused "_law_refused" = true)
    (k_law_refused : PySem.W.keepIn K (.ref f_law_refused) = true)
    (a_digits_below : PySem.W.nsIn K mainGlobals "digits_below" = some (some (.ref f_digits_below)))
    (l_digits_below : K.lookup f_digits_below = some ⟨oc_digits_below, od_digits_below, .func (PySem.W.fnOf "digits_below" "digits_below" (defArgs s_digits_below) (defBody s_digits_below) (defScope s_digits_below) .none kV_digits_below dc_digits_below pm_digits_below an_digits_below cd_digits_below ct_digits_below), sl_digits_below⟩)
    (c_digits_below : PySem.W.codeIn K cd_digits_below "digits_below" = true)
    (k_digits_below : PySem.W.keepIn K (.ref f_digits_below) = true)
    (a_Sequence_state : PySem.W.findIn K (.ref C_Sequence) "state" = some (some (.ref f_Sequence_state)))
    (i_Sequence_state : PySem.W.isFn K (.ref f_Sequence_state) = true)
    (l_Sequence_state : K.lookup f_Sequence_state = some ⟨oc_Sequence_state, od_Sequence_state, .func (PySem.W.fnOf "state" "Sequence.state" (defArgs s_Sequence_state) (defBody s_Sequence_state) (defScope s_Sequence_state) .none kV_Sequence_state dc_Sequence_state pm_Sequence_state an_Sequence_state cd_Sequence_state ct_Sequence_state), sl_Sequence_state⟩)
    (c_Sequence_state : PySem.W.codeIn K cd_Sequence_state "Sequence.state" = true)
    (k_Sequence_state : PySem.W.keepIn K (.ref f_Sequence_state) = true)
    (a_Sequence_at : PySem.W.findIn K (.ref C_Sequence) "at" = some (some (.ref f_Sequence_at)))
    (i_Sequence_at : PySem.W.isFn K (.ref f_Sequence_at) = true)
    (l_Sequence_at : K.lookup f_Sequence_at = some ⟨oc_Sequence_at, od_Sequence_at, .func (PySem.W.fnOf "at" "Sequence.at" (defArgs s_Sequence_at) (defBody s_Sequence_at) (defScope s_Sequence_at) .none kV_Sequence_at dc_Sequence_at pm_Sequence_at an_Sequence_at cd_Sequence_at ct_Sequence_at), sl_Sequence_at⟩)
    (c_Sequence_at : PySem.W.codeIn K cd_Sequence_at "Sequence.at" = true)
    (k_Sequence_at : PySem.W.keepIn K (.ref f_Sequence_at) = true)
    (a_law : PySem.W.nsIn K mainGlobals "law" = some (some (.ref f_law)))
    (l_law : K.lookup f_law = some ⟨oc_law, od_law, .func (PySem.W.fnOf "law" "law" (defArgs s_law) (defBody s_law) (defScope s_law) .none kV_law dc_law pm_law an_law cd_law ct_law), sl_law⟩)
    (c_law : PySem.W.codeIn K cd_law "law" = true)
    (k_law : PySem.W.keepIn K (.ref f_law) = true)
    (na_Sequence_base : PySem.W.findIn K (.ref C_Sequence) "base" = some none)
    (na_Sequence_outputs : PySem.W.findIn K (.ref C_Sequence) "outputs" = some none)
    (na_Sequence_rows : PySem.W.findIn K (.ref C_Sequence) "rows" = some none)
    (z_ValueError : PySem.W.nsIn K mainGlobals "ValueError" = some none)
    (z_abs : PySem.W.nsIn K mainGlobals "abs" = some none)
    (z_all : PySem.W.nsIn K mainGlobals "all" = some none)
    (z_bool : PySem.W.nsIn K mainGlobals "bool" = some none)
    (z_enumerate : PySem.W.nsIn K mainGlobals "enumerate" = some none)
    (z_int : PySem.W.nsIn K mainGlobals "int" = some none)
    (z_isinstance : PySem.W.nsIn K mainGlobals "isinstance" = some none)
    (z_len : PySem.W.nsIn K mainGlobals "len" = some none)
    (z_list : PySem.W.nsIn K mainGlobals "list" = some none)
    (z_max : PySem.W.nsIn K mainGlobals "max" = some none)
    (z_min : PySem.W.nsIn K mainGlobals "min" = some none)
    (z_range : PySem.W.nsIn K mainGlobals "range" = some none)
    (z_tuple : PySem.W.nsIn K mainGlobals "tuple" = some none)
    (g_MOST_OUTPUT : PySem.W.nsIn K mainGlobals "MOST_OUTPUT" = some (some (.int 9 t_MOST_OUTPUT)))
    (g_MOST_STATES : PySem.W.nsIn K mainGlobals "MOST_STATES" = some (some (.int 2000 t_MOST_STATES))) :
    ∃ fd : FuncData, (∀ (s : Shared) (v : Value), BindsTo s fd ⟨[v], []⟩ [("_law_script", v)]) ∧ ∀ base : Heap, K.In base → base.Ns mainGlobals mg → FnOk l.prog w K mg base CX0 9 fa fd ["_law_script"] (spLaw K) := by
  have e := hfa.symm.trans (PySem.W.mg_of X G a_law)
  cases e
  have T : Txt K mg (fun c => if c = 21 then some (C_Sequence, ns_Sequence) else (fun c => if c = 5 then some (C_BadSequence, []) else (fun c => if c = 6 then some (C_NotSteady, []) else (fun c => if c = 7 then some (C_OtherBase, []) else (fun _ => none) c) c) c) c) C_Sequence C_BadSequence C_NotSteady C_OtherBase := { ce_Sequence := rfl, cl_Sequence := ⟨pg_Sequence, hd_Sequence, po_Sequence, sa_Sequence⟩, g_BadSequence := PySem.W.mg_of X G aC_BadSequence, g_NotSteady := PySem.W.mg_of X G aC_NotSteady, g_OtherBase := PySem.W.mg_of X G aC_OtherBase, ce_BadSequence := rfl, x_BadSequence := x_BadSequence, k_BadSequence := kc_BadSequence, b_BadSequence := b_BadSequence, t_BadSequence := t_BadSequence, ce_NotSteady := rfl, x_NotSteady := x_NotSteady, k_NotSteady := kc_NotSteady, b_NotSteady := b_NotSteady, t_NotSteady := t_NotSteady, ce_OtherBase := rfl, x_OtherBase := x_OtherBase, k_OtherBase := kc_OtherBase, b_OtherBase := b_OtherBase, t_OtherBase := t_OtherBase, exm_OtherBase_OtherBase := PySem.W.exm_ref b_OtherBase hd_OtherBase t_OtherBase su_OtherBase_OtherBase, ec_OtherBase := ⟨e1_OtherBase, e2_OtherBase, b_OtherBase, hd_OtherBase, e3_OtherBase, e5, e6, e4_OtherBase⟩, kit_OtherBase_BadSequence := kit_ref hd_BadSequence t_BadSequence ks_OtherBase_BadSequence nk_OtherBase_BadSequence, kit_OtherBase_ValueError := kit_type ks_OtherBase_ValueError, na_Sequence_base := na_Sequence_base, na_Sequence_outputs := na_Sequence_outputs, na_Sequence_rows := na_Sequence_rows, n_ValueError := PySem.W.mg_none_of X G z_ValueError, n_abs := PySem.W.mg_none_of X G z_abs, n_all := PySem.W.mg_none_of X G z_all, n_bool := PySem.W.mg_none_of X G z_bool, n_enumerate := PySem.W.mg_none_of X G z_enumerate, n_int := PySem.W.mg_none_of X G z_int, n_isinstance := PySem.W.mg_none_of X G z_isinstance, n_len := PySem.W.mg_none_of X G z_len, n_list := PySem.W.mg_none_of X G z_list, n_max := PySem.W.mg_none_of X G z_max, n_min := PySem.W.mg_none_of X G z_min, n_range := PySem.W.mg_none_of X G z_range, n_tuple := PySem.W.mg_none_of X G z_tuple, c_MOST_OUTPUT := ⟨_, PySem.W.mg_of X G g_MOST_OUTPUT⟩, c_MOST_STATES := ⟨_, PySem.W.mg_of X G g_MOST_STATES⟩ }
  have F_law_draws := fun_mk (st := s_law_draws) l_law_draws c_law_draws k_law_draws
  have b_law_draws := F_law_draws.binds (ps := ["_law_script", "_law_many"]) fun _ _ _ _ _ _ us hl => match us, hl with | [_, _], _ => rfl
  have F_law_rows := fun_mk (st := s_law_rows) l_law_rows c_law_rows k_law_rows
  have b_law_rows := F_law_rows.binds (ps := ["_law_draws_here", "_law_base", "_law_size"]) fun _ _ _ _ _ _ us hl => match us, hl with | [_, _, _], _ => rfl
  have F_law_drawn := fun_mk (st := s_law_drawn) l_law_drawn c_law_drawn k_law_drawn
  have b_law_drawn := F_law_drawn.binds (ps := ["_law_draws_here", "_law_most"]) fun _ _ _ _ _ _ us hl => match us, hl with | [_, _], _ => rfl
  have F_parting_digits := fun_mk (st := s_parting_digits) l_parting_digits c_parting_digits k_parting_digits
  have b_parting_digits := F_parting_digits.binds (ps := ["first", "one", "second", "two"]) fun _ _ _ _ _ _ us hl => match us, hl with | [_, _, _, _], _ => rfl
  have F_is_integer := fun_mk (st := s_is_integer) l_is_integer c_is_integer k_is_integer
  have b_is_integer := F_is_integer.binds (ps := ["value", "least", "most"]) fun _ _ _ _ _ _ us hl => match us, hl with | [_, _, _], _ => rfl
  have F_are_rows := fun_mk (st := s_are_rows) l_are_rows c_are_rows k_are_rows
  have b_are_rows := F_are_rows.binds (ps := ["rows", "width"]) fun _ _ _ _ _ _ us hl => match us, hl with | [_, _], _ => rfl
  have F_are_outputs := fun_mk (st := s_are_outputs) l_are_outputs c_are_outputs k_are_outputs
  have b_are_outputs := F_are_outputs.binds (ps := ["values", "count"]) fun _ _ _ _ _ _ us hl => match us, hl with | [_, _], _ => rfl
  have F_Sequence__init_ := fun_mk (st := s_Sequence__init_) l_Sequence__init_ c_Sequence__init_ k_Sequence__init_
  have b_Sequence__init_ := F_Sequence__init_.binds (ps := ["self", "base", "rows", "outputs"]) fun _ _ _ _ _ _ us hl => match us, hl with | [_, _, _, _], _ => rfl
  have F_law_numbers_I := fun_mk (st := s_law_numbers_I) l_law_numbers_I c_law_numbers_I k_law_numbers_I
  have b_law_numbers_I := F_law_numbers_I.binds (ps := ["_law_sights"]) fun _ _ _ _ _ _ us hl => match us, hl with | [_], _ => rfl
  have F_law_numbers_T := fun_mk (st := s_law_numbers_T) l_law_numbers_T c_law_numbers_T k_law_numbers_T
  have b_law_numbers_T := F_law_numbers_T.binds (ps := ["_law_sights"]) fun _ _ _ _ _ _ us hl => match us, hl with | [_], _ => rfl
  have F_law_least := fun_mk (st := s_law_least) l_law_least c_law_least k_law_least
  have b_law_least := F_law_least.binds (ps := ["_law_rows_here", "_law_outputs"]) fun _ _ _ _ _ _ us hl => match us, hl with | [_, _], _ => rfl
  have F_numbers_I := fun_mk (st := s_numbers_I) l_numbers_I c_numbers_I k_numbers_I
  have b_numbers_I := F_numbers_I.binds (ps := ["sights"]) fun _ _ _ _ _ _ us hl => match us, hl with | [_], _ => rfl
  have F_numbers_T := fun_mk (st := s_numbers_T) l_numbers_T c_numbers_T k_numbers_T
  have b_numbers_T := F_numbers_T.binds (ps := ["sights"]) fun _ _ _ _ _ _ us hl => match us, hl with | [_], _ => rfl
  have F_least_sequence := fun_mk (st := s_least_sequence) l_least_sequence c_least_sequence k_least_sequence
  have b_least_sequence := F_least_sequence.binds (ps := ["sequence"]) fun _ _ _ _ _ _ us hl => match us, hl with | [_], _ => rfl
  have F_law_doubled := fun_mk (st := s_law_doubled) l_law_doubled c_law_doubled k_law_doubled
  have b_law_doubled := F_law_doubled.binds (ps := ["_law_rows_here", "_law_outputs", "_law_draws_here"]) fun _ _ _ _ _ _ us hl => match us, hl with | [_, _, _], _ => rfl
  have F_law_differing := fun_mk (st := s_law_differing) l_law_differing c_law_differing k_law_differing
  have b_law_differing := F_law_differing.binds (ps := ["_law_first", "_law_second", "_law_base"]) fun _ _ _ _ _ _ us hl => match us, hl with | [_, _, _], _ => rfl
  have F_differing := fun_mk (st := s_differing) l_differing c_differing k_differing
  have b_differing := F_differing.binds (ps := ["first", "second"]) fun _ _ _ _ _ _ us hl => match us, hl with | [_, _], _ => rfl
  have F_same := fun_mk (st := s_same) l_same c_same k_same
  have b_same := F_same.binds (ps := ["first", "second"]) fun _ _ _ _ _ _ us hl => match us, hl with | [_, _], _ => rfl
  have F_law_refused := fun_mk (st := s_law_refused) l_law_refused c_law_refused k_law_refused
  have b_law_refused := F_law_refused.binds (ps := ["_law_word", "_law_first", "_law_second"]) fun _ _ _ _ _ _ us hl => match us, hl with | [_, _, _], _ => rfl
  have F_digits_below := fun_mk (st := s_digits_below) l_digits_below c_digits_below k_digits_below
  have b_digits_below := F_digits_below.binds (ps := ["n", "base"]) fun _ _ _ _ _ _ us hl => match us, hl with | [_, _], _ => rfl
  have F_Sequence_state := fun_mk (st := s_Sequence_state) l_Sequence_state c_Sequence_state k_Sequence_state
  have b_Sequence_state := F_Sequence_state.binds (ps := ["self", "n"]) fun _ _ _ _ _ _ us hl => match us, hl with | [_, _], _ => rfl
  have F_Sequence_at := fun_mk (st := s_Sequence_at) l_Sequence_at c_Sequence_at k_Sequence_at
  have b_Sequence_at := F_Sequence_at.binds (ps := ["self", "n"]) fun _ _ _ _ _ _ us hl => match us, hl with | [_, _], _ => rfl
  have F_law := fun_mk (st := s_law) l_law c_law k_law
  have b_law := F_law.binds (ps := ["_law_script"]) fun _ _ _ _ _ _ us hl => match us, hl with | [_], _ => rfl
  refine ⟨PySem.W.fnOf "law" "law" (defArgs s_law) (defBody s_law) (defScope s_law) .none kV_law dc_law pm_law an_law cd_law ct_law, fun s v => .of_eq rfl, fun base _ _ => ?_⟩
  have ok_law_draws := ok_law_draws (P := l.prog) (w := w) (base := base) F_law_draws T 
  have ok_law_rows := ok_law_rows (P := l.prog) (w := w) (base := base) F_law_rows T 
  have ok_law_drawn := ok_law_drawn (P := l.prog) (w := w) (base := base) F_law_drawn T ⟨ok_law_rows, b_law_rows, PySem.W.mg_of X G a_law_rows, k_law_rows⟩
  have ok_parting_digits := ok_parting_digits (P := l.prog) (w := w) (base := base) F_parting_digits T 
  have ok_is_integer := ok_is_integer (P := l.prog) (w := w) (base := base) F_is_integer T 
  have ok_are_rows := ok_are_rows (P := l.prog) (w := w) (base := base) F_are_rows T ⟨ok_is_integer, b_is_integer, PySem.W.mg_of X G a_is_integer, k_is_integer⟩
  have ok_are_outputs := ok_are_outputs (P := l.prog) (w := w) (base := base) F_are_outputs T ⟨ok_is_integer, b_is_integer, PySem.W.mg_of X G a_is_integer, k_is_integer⟩
  have ok_Sequence__init_ := ok_Sequence__init_ (P := l.prog) (w := w) (base := base) F_Sequence__init_ T ⟨ok_is_integer, b_is_integer, PySem.W.mg_of X G a_is_integer, k_is_integer⟩ ⟨ok_are_rows, b_are_rows, PySem.W.mg_of X G a_are_rows, k_are_rows⟩ ⟨ok_are_outputs, b_are_outputs, PySem.W.mg_of X G a_are_outputs, k_are_outputs⟩ ⟨ok_parting_digits, b_parting_digits, PySem.W.mg_of X G a_parting_digits, k_parting_digits⟩
  have ok_law_numbers_I := ok_law_numbers_I (P := l.prog) (w := w) (base := base) F_law_numbers_I T 
  have ok_law_numbers_T := ok_law_numbers_T (P := l.prog) (w := w) (base := base) F_law_numbers_T T 
  have ok_law_least := ok_law_least (P := l.prog) (w := w) (base := base) F_law_least T ⟨ok_law_numbers_I, b_law_numbers_I, PySem.W.mg_of X G a_law_numbers_I, k_law_numbers_I⟩ ⟨ok_law_numbers_T, b_law_numbers_T, PySem.W.mg_of X G a_law_numbers_T, k_law_numbers_T⟩
  have ok_numbers_I := ok_numbers_I (P := l.prog) (w := w) (base := base) F_numbers_I T 
  have ok_numbers_T := ok_numbers_T (P := l.prog) (w := w) (base := base) F_numbers_T T 
  have ok_least_sequence := ok_least_sequence (P := l.prog) (w := w) (base := base) F_least_sequence T ⟨ok_numbers_I, b_numbers_I, PySem.W.mg_of X G a_numbers_I, k_numbers_I⟩ ⟨ok_numbers_T, b_numbers_T, PySem.W.mg_of X G a_numbers_T, k_numbers_T⟩ ⟨⟨mk_Sequence, a_Sequence__init_, i_Sequence__init_, kc_Sequence⟩, ok_Sequence__init_, b_Sequence__init_, PySem.W.mg_of X G aC_Sequence⟩
  have ok_law_doubled := ok_law_doubled (P := l.prog) (w := w) (base := base) F_law_doubled T 
  have ok_law_differing := ok_law_differing (P := l.prog) (w := w) (base := base) F_law_differing T 
  have ok_differing := ok_differing (P := l.prog) (w := w) (base := base) F_differing T ⟨ok_parting_digits, b_parting_digits, PySem.W.mg_of X G a_parting_digits, k_parting_digits⟩ ⟨ok_least_sequence, b_least_sequence, PySem.W.mg_of X G a_least_sequence, k_least_sequence⟩
  have ok_same := ok_same (P := l.prog) (w := w) (base := base) F_same T ⟨ok_differing, b_differing, PySem.W.mg_of X G a_differing, k_differing⟩
  have ok_law_refused := ok_law_refused (P := l.prog) (w := w) (base := base) F_law_refused T ⟨ok_same, b_same, PySem.W.mg_of X G a_same, k_same⟩ ⟨ok_differing, b_differing, PySem.W.mg_of X G a_differing, k_differing⟩
  have ok_digits_below := ok_digits_below (P := l.prog) (w := w) (base := base) F_digits_below T 
  have ok_Sequence_state := ok_Sequence_state (P := l.prog) (w := w) (base := base) F_Sequence_state T ⟨ok_digits_below, b_digits_below, PySem.W.mg_of X G a_digits_below, k_digits_below⟩
  have ok_Sequence_at := ok_Sequence_at (P := l.prog) (w := w) (base := base) F_Sequence_at T ⟨ok_Sequence_state, b_Sequence_state, ⟨a_Sequence_state, i_Sequence_state, k_Sequence_state⟩⟩
  have ok_law := ok_law (P := l.prog) (w := w) (base := base) F_law T ⟨ok_law_draws, b_law_draws, PySem.W.mg_of X G a_law_draws, k_law_draws⟩ ⟨ok_law_drawn, b_law_drawn, PySem.W.mg_of X G a_law_drawn, k_law_drawn⟩ ⟨⟨mk_Sequence, a_Sequence__init_, i_Sequence__init_, kc_Sequence⟩, ok_Sequence__init_, b_Sequence__init_, PySem.W.mg_of X G aC_Sequence⟩ ⟨ok_law_least, b_law_least, PySem.W.mg_of X G a_law_least, k_law_least⟩ ⟨ok_least_sequence, b_least_sequence, PySem.W.mg_of X G a_least_sequence, k_least_sequence⟩ ⟨ok_law_doubled, b_law_doubled, PySem.W.mg_of X G a_law_doubled, k_law_doubled⟩ ⟨ok_same, b_same, PySem.W.mg_of X G a_same, k_same⟩ ⟨ok_differing, b_differing, PySem.W.mg_of X G a_differing, k_differing⟩ ⟨ok_law_differing, b_law_differing, PySem.W.mg_of X G a_law_differing, k_law_differing⟩ ⟨ok_Sequence_at, b_Sequence_at, ⟨a_Sequence_at, i_Sequence_at, k_Sequence_at⟩⟩ ⟨ok_law_refused, b_law_refused, PySem.W.mg_of X G a_law_refused, k_law_refused⟩
  exact ok_law.imp sp_law
theorem walk {l : PySem.W.OpenLaw} {q : Program} {loose : List Str} {XP : (Str → Option Value) → Heap → Prop} {YP : World → Heap → Prop} {d : DefRec} {K : Params → PySem.W.Frag} (hn : l.most = some 63) (hdf : d.params.defaults = [])
    (hY : ∀ (w : World) (h : Heap), YP w h → (K w.params).In h)
    (F : ∀ (w : World) (mg : Str → Option Value) (fa : Addr) (h : Heap), (K w.params).In h → h.Ns mainGlobals mg → mg d.name = some (.ref fa) →
      ∃ fd : FuncData, (∀ (s : Shared) (u : Value), BindsTo s fd ⟨[u], []⟩ [("_law_script", u)]) ∧ ∀ base : Heap, (K w.params).In base → base.Ns mainGlobals mg → FnOk l.prog w (K w.params) mg base CX0 9 fa fd ["_law_script"] (spLaw (K w.params))) :
    PySem.W.WalkO q loose XP YP l.row.toRowW d [] (fun f vs => PySem.call f vs) :=
  L2.walk_of (n := 63) (k := 9) (x := "_law_script") (CX := fun _ => CX0) (sp := fun w => spLaw (K w.params)) hn (by decide) hdf ⟨rfl, by decide, by decide⟩ hY F (fun _ _ a ns hl _ hS => ⟨a, ns, rfl, hS, hl, fun _ => rfl⟩) fun _ _ _ _ _ z => z
end K22

open PySem PySem.W PyProof.Rows in
set_option maxRecDepth 100000 in
set_option maxHeartbeats 0 in
theorem PySem.Challenge.cw_automatics_k22_least_sequences_holds : PySem.Challenge.rw_automatics_k22_least_sequences.Holds := by
  w_on; o_law; k_head; (case hw => w_witness2)
  k_fill
  refine K22.walk (l := PySem.Challenge.rw_automatics_k22_least_sequences) rfl rfl (fun w h Y => PySem.W.kIn_of Y) ?F
  case F =>
    intro w mg fa h KX G hmg
    refine' K22.all_mk KX G hmg ?aC_Sequence ?pg_Sequence ?hd_Sequence ?po_Sequence ?sa_Sequence ?mk_Sequence ?kc_Sequence ?aC_BadSequence ?aC_NotSteady ?aC_OtherBase ?b_BadSequence ?t_BadSequence ?hd_BadSequence ?b_NotSteady ?t_NotSteady ?hd_NotSteady ?b_OtherBase ?t_OtherBase ?hd_OtherBase ?x_BadSequence ?kc_BadSequence ?x_NotSteady ?kc_NotSteady ?x_OtherBase ?kc_OtherBase ?su_OtherBase_OtherBase ?e1_OtherBase ?e2_OtherBase ?e3_OtherBase ?e4_OtherBase ?e5 ?e6 ?ks_OtherBase_BadSequence ?nk_OtherBase_BadSequence ?ks_OtherBase_ValueError ?a_law_draws ?l_law_draws ?c_law_draws ?k_law_draws ?a_law_rows ?l_law_rows ?c_law_rows ?k_law_rows ?a_law_drawn ?l_law_drawn ?c_law_drawn ?k_law_drawn ?a_parting_digits ?l_parting_digits ?c_parting_digits ?k_parting_digits ?a_is_integer ?l_is_integer ?c_is_integer ?k_is_integer ?a_are_rows ?l_are_rows ?c_are_rows ?k_are_rows ?a_are_outputs ?l_are_outputs ?c_are_outputs ?k_are_outputs ?a_Sequence__init_ ?i_Sequence__init_ ?l_Sequence__init_ ?c_Sequence__init_ ?k_Sequence__init_ ?a_law_numbers_I ?l_law_numbers_I ?c_law_numbers_I ?k_law_numbers_I ?a_law_numbers_T ?l_law_numbers_T ?c_law_numbers_T ?k_law_numbers_T ?a_law_least ?l_law_least ?c_law_least ?k_law_least ?a_numbers_I ?l_numbers_I ?c_numbers_I ?k_numbers_I ?a_numbers_T ?l_numbers_T ?c_numbers_T ?k_numbers_T ?a_least_sequence ?l_least_sequence ?c_least_sequence ?k_least_sequence ?a_law_doubled ?l_law_doubled ?c_law_doubled ?k_law_doubled ?a_law_differing ?l_law_differing ?c_law_differing ?k_law_differing ?a_differing ?l_differing ?c_differing ?k_differing ?a_same ?l_same ?c_same ?k_same ?a_law_refused ?l_law_refused ?c_law_refused ?k_law_refused ?a_digits_below ?l_digits_below ?c_digits_below ?k_digits_below ?a_Sequence_state ?i_Sequence_state ?l_Sequence_state ?c_Sequence_state ?k_Sequence_state ?a_Sequence_at ?i_Sequence_at ?l_Sequence_at ?c_Sequence_at ?k_Sequence_at ?a_law ?l_law ?c_law ?k_law ?na_Sequence_base ?na_Sequence_outputs ?na_Sequence_rows ?z_ValueError ?z_abs ?z_all ?z_bool ?z_enumerate ?z_int ?z_isinstance ?z_len ?z_list ?z_max ?z_min ?z_range ?z_tuple ?g_MOST_OUTPUT ?g_MOST_STATES
    (case aC_Sequence => k_is)
    (case pg_Sequence => k_is)
    (case hd_Sequence => k_is)
    (case po_Sequence => k_is)
    (case sa_Sequence => k_is)
    (case mk_Sequence => k_is)
    (case kc_Sequence => k_is)
    (case aC_BadSequence => k_is)
    (case aC_NotSteady => k_is)
    (case aC_OtherBase => k_is)
    (case b_BadSequence => k_is)
    (case t_BadSequence => k_is)
    (case hd_BadSequence => k_is)
    (case b_NotSteady => k_is)
    (case t_NotSteady => k_is)
    (case hd_NotSteady => k_is)
    (case b_OtherBase => k_is)
    (case t_OtherBase => k_is)
    (case hd_OtherBase => k_is)
    (case x_BadSequence => k_exc)
    (case kc_BadSequence => k_is)
    (case x_NotSteady => k_exc)
    (case kc_NotSteady => k_is)
    (case x_OtherBase => k_exc)
    (case kc_OtherBase => k_is)
    (case su_OtherBase_OtherBase => k_is)
    (case e1_OtherBase => k_is)
    (case e2_OtherBase => k_is)
    (case e3_OtherBase => k_is)
    (case e4_OtherBase => k_is)
    (case e5 => k_is)
    (case e6 => k_is)
    (case ks_OtherBase_BadSequence => k_is)
    (case nk_OtherBase_BadSequence => decide)
    (case ks_OtherBase_ValueError => k_is)
    (case a_law_draws => k_is)
    (case l_law_draws => k_is)
    (case c_law_draws => k_is)
    (case k_law_draws => k_is)
    (case a_law_rows => k_is)
    (case l_law_rows => k_is)
    (case c_law_rows => k_is)
    (case k_law_rows => k_is)
    (case a_law_drawn => k_is)
    (case l_law_drawn => k_is)
    (case c_law_drawn => k_is)
    (case k_law_drawn => k_is)
    (case a_parting_digits => k_is)
    (case l_parting_digits => k_is)
    (case c_parting_digits => k_is)
    (case k_parting_digits => k_is)
    (case a_is_integer => k_is)
    (case l_is_integer => k_is)
    (case c_is_integer => k_is)
    (case k_is_integer => k_is)
    (case a_are_rows => k_is)
    (case l_are_rows => k_is)
    (case c_are_rows => k_is)
    (case k_are_rows => k_is)
    (case a_are_outputs => k_is)
    (case l_are_outputs => k_is)
    (case c_are_outputs => k_is)
    (case k_are_outputs => k_is)
    (case a_Sequence__init_ => k_is)
    (case i_Sequence__init_ => k_is)
    (case l_Sequence__init_ => k_is)
    (case c_Sequence__init_ => k_is)
    (case k_Sequence__init_ => k_is)
    (case a_law_numbers_I => k_is)
    (case l_law_numbers_I => k_is)
    (case c_law_numbers_I => k_is)
    (case k_law_numbers_I => k_is)
    (case a_law_numbers_T => k_is)
    (case l_law_numbers_T => k_is)
    (case c_law_numbers_T => k_is)
    (case k_law_numbers_T => k_is)
    (case a_law_least => k_is)
    (case l_law_least => k_is)
    (case c_law_least => k_is)
    (case k_law_least => k_is)
    (case a_numbers_I => k_is)
    (case l_numbers_I => k_is)
    (case c_numbers_I => k_is)
    (case k_numbers_I => k_is)
    (case a_numbers_T => k_is)
    (case l_numbers_T => k_is)
    (case c_numbers_T => k_is)
    (case k_numbers_T => k_is)
    (case a_least_sequence => k_is)
    (case l_least_sequence => k_is)
    (case c_least_sequence => k_is)
    (case k_least_sequence => k_is)
    (case a_law_doubled => k_is)
    (case l_law_doubled => k_is)
    (case c_law_doubled => k_is)
    (case k_law_doubled => k_is)
    (case a_law_differing => k_is)
    (case l_law_differing => k_is)
    (case c_law_differing => k_is)
    (case k_law_differing => k_is)
    (case a_differing => k_is)
    (case l_differing => k_is)
    (case c_differing => k_is)
    (case k_differing => k_is)
    (case a_same => k_is)
    (case l_same => k_is)
    (case c_same => k_is)
    (case k_same => k_is)
    (case a_law_refused => k_is)
    (case l_law_refused => k_is)
    (case c_law_refused => k_is)
    (case k_law_refused => k_is)
    (case a_digits_below => k_is)
    (case l_digits_below => k_is)
    (case c_digits_below => k_is)
    (case k_digits_below => k_is)
    (case a_Sequence_state => k_is)
    (case i_Sequence_state => k_is)
    (case l_Sequence_state => k_is)
    (case c_Sequence_state => k_is)
    (case k_Sequence_state => k_is)
    (case a_Sequence_at => k_is)
    (case i_Sequence_at => k_is)
    (case l_Sequence_at => k_is)
    (case c_Sequence_at => k_is)
    (case k_Sequence_at => k_is)
    (case a_law => k_is)
    (case l_law => k_is)
    (case c_law => k_is)
    (case k_law => k_is)
    (case na_Sequence_base => k_is)
    (case na_Sequence_outputs => k_is)
    (case na_Sequence_rows => k_is)
    (case z_ValueError => k_is)
    (case z_abs => k_is)
    (case z_all => k_is)
    (case z_bool => k_is)
    (case z_enumerate => k_is)
    (case z_int => k_is)
    (case z_isinstance => k_is)
    (case z_len => k_is)
    (case z_list => k_is)
    (case z_max => k_is)
    (case z_min => k_is)
    (case z_range => k_is)
    (case z_tuple => k_is)
    (case g_MOST_OUTPUT => k_is)
    (case g_MOST_STATES => k_is)

