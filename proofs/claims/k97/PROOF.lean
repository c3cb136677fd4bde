import PyProof.Rows.All
import Wide.All
import OpenK.AllK
import Wide.FinOn
import HandS.ForMost
import HandS.More
import KE.SortData
import HandS.ListItems
import KE.KItemsList
import HandS.Zip
import KE.KDictPairs
import KE.GoesEnum
import PyProof.NeKinds
import HandS.Wide
import HandS.TupAny
import HandS.Walk
import KE.DataEq
import HandS.Steps
import KE.BitLaws
import PySem.Challenge.RW_keptnest_k97_whole_alternating_sums
set_option Elab.async false
set_option linter.all false
set_option maxRecDepth 100000
set_option pp.maxSteps 1000
/-! KaR1 -/
set_option maxRecDepth 100000
namespace N97
open PySem PySem.Spec PyProof.Rows L2

/-- sorted(xs), where each item stands for a b, its datum enc b -/
def rSortB (K : PySem.W.Frag) {β : Type} (g : β → V) (enc : β → PyData) (bs : List β) : List V → Hp → VK → Prop := fun vs H Q => ∃ (a : Addr), vs = [V.ref a] ∧ SqL K H a (bs.map g) ∧
  (∀ b ∈ bs, Dp K H (g b) (enc b)) ∧ PySem.W.AllAlike (bs.map enc) ∧ PySem.W.Sortable (bs.map enc) ∧ (∀ b ∈ bs, (enc b).depth ≤ 100) ∧
  ∀ p : Addr, H p = none → Q (.ref p) (upd H p (.lst ((bs.mergeSort (PySem.W.dataLe false enc)).map g)))

theorem each_of_vals {β : Type} {g : β → V} {R : Value → β → Prop} : ∀ {bs : List β} {its : List Value}, Vals (bs.map g) its → (∀ b ∈ bs, ∀ u, RelV (g b) u → R u b) → PySem.W.EachIs R its bs
  | [], _, r, _ => by cases r; exact .nil
  | b :: bs, _, r, h => by
    cases r with
    | cons r1 r2 => exact .cons (h b (List.mem_cons_self ..) _ r1) (each_of_vals r2 fun b hb => h b (List.mem_cons_of_mem _ hb))
theorem vals_of_each {β : Type} {g : β → V} : ∀ {bs : List β} {out : List Value}, PySem.W.EachIs (fun u b => RelV (g b) u) out bs → Vals (bs.map g) out
  | _, _, .nil => .nil
  | _, _, .cons h t => .cons h (vals_of_each t)

theorem cr_sortB {X : Cx} {β : Type} (g : β → V) (enc : β → PyData) (bs : List β) (hu : X.A.units + 200 < cLine) : CallR X (.builtin "sorted") (rSortB X.K g enc bs) := by
  intro pins s σ H vs us Q I r h
  obtain ⟨a, rfl, hs, hd, hal, hk, hdep, q⟩ := h
  obtain ⟨its, rv, hl, hz⟩ := I.list hs
  rw [Vals.ref1 r]
  have e : PySem.W.EachIs (fun u b => RelV (g b) u) its bs := each_of_vals rv fun b _ u ru => ru
  have er : PySem.W.EachIs (fun u b => ∃ as, Reads s.heap u (enc b) as) its bs := each_of_vals rv fun b hb u ru => Dp.reads I _ _ _ (hd b hb) ru
  have hL : bs.length ≤ sizeLine := by rw [List.length_map] at hz; exact hz
  refine PySem.W.sorted_data (R := fun u b => RelV (g b) u) hl.isList e er hal hk hL (fun b hb => by have := hdep b hb; omega) fun out ho eo => ?_
  obtain ⟨ep, he'⟩ := PyProof.Rows.sortedAll_at s.heap its out.toArray
  have hlen : ((bs.mergeSort (PySem.W.dataLe false enc)).map g).length ≤ sizeLine := by rw [List.length_map, List.length_mergeSort]; exact hL
  exact ⟨.ref _, upd H (s.heap.objs.size + 1) (.lst ((bs.mergeSort (PySem.W.dataLe false enc)).map g)), I.laid (t' := s.toks) (fun _ _ => PyProof.Rows.sortedAll_old) (Nat.le_succ _) ⟨hlen, out, ep, vals_of_each eo, by simpa using he'⟩, rfl, q _ (I.hok.fresh (Nat.le_succ _))⟩
end N97

/-! KaR2 -/
set_option maxRecDepth 100000
set_option maxHeartbeats 2000000
namespace N97
open PySem PySem.Spec PyProof.Rows L2

/-! sorted(d.items()), the keys texts -/
def IsKP (h : Heap) (v : Value) (x : Str) : Prop := ∃ a t u, v = .ref a ∧ IsTup h a #[.str x t, u]
theorem IsKP.uniq {h : Heap} {v : Value} {x y : Str} (p : IsKP h v x) (q : IsKP h v y) : x = y := by
  obtain ⟨a, t, u, rfl, o, ho, hc, n, hd⟩ := p
  obtain ⟨b, t', u', e, o', ho', hc', n', hd'⟩ := q
  cases e
  rw [ho] at ho'
  cases ho'
  rw [hd] at hd'
  injection hd' with h1 _
  have h2 := congrArg Array.toList h1
  simp only [List.cons.injEq, Value.str.injEq] at h2
  exact h2.1.1
noncomputable def pairKind (h : Heap) (vs : List Value) : PyProof.Rows.KeyKind where
  toKeyOrd := PyProof.Rows.itemOrd
  keyOf v := open Classical in if q : v ∈ vs ∧ ∃ x, IsKP h v x then some (.inr q.2.choose.cps.toList) else none
  dflt := (.inl 0 : Int ⊕ List Nat)
theorem pairKind_some {h : Heap} {vs : List Value} {v : Value} {x : Str} (hv : v ∈ vs) (p : IsKP h v x) : (pairKind h vs).keyOf v = some (.inr x.cps.toList) := by
  have q : v ∈ vs ∧ ∃ x, IsKP h v x := ⟨hv, x, p⟩
  show (open Classical in if q : v ∈ vs ∧ ∃ x, IsKP h v x then some (Sum.inr q.2.choose.cps.toList) else none) = _
  rw [dif_pos q, q.2.choose_spec.uniq p]
  rfl
theorem pairKind_inv {h : Heap} {vs : List Value} {v : Value} {k : Int ⊕ List Nat} (e : (pairKind h vs).keyOf v = some k) : v ∈ vs ∧ ∃ x, IsKP h v x ∧ k = .inr x.cps.toList := by
  by_cases q : v ∈ vs ∧ ∃ x, IsKP h v x
  · have e' : (pairKind h vs).keyOf v = some (.inr q.2.choose.cps.toList) := by
      show (open Classical in if q : v ∈ vs ∧ ∃ x, IsKP h v x then some (Sum.inr q.2.choose.cps.toList) else none) = _
      rw [dif_pos q]
      rfl
    rw [e'] at e
    exact ⟨q.1, _, q.2.choose_spec, (Option.some.inj e).symm⟩
  · have e' : (pairKind h vs).keyOf v = none := by
      show (open Classical in if q : v ∈ vs ∧ ∃ x, IsKP h v x then some (Sum.inr q.2.choose.cps.toList) else none) = _
      rw [dif_neg q]
      rfl
    rw [e'] at e
    cases e
theorem katTups_of {h : Heap} : ∀ (vs : List Value), (∀ v ∈ vs, ∃ x, IsKP h v x) → ∃ fs, PySem.W.KatTups h vs fs ∧ fs.length = vs.length ∧ ∀ f ∈ fs, ∃ x t, f = Value.str x t
  | [], _ => ⟨[], PySem.W.KatTups.nil, rfl, fun _ hf => nomatch hf⟩
  | v :: vs, hh => by
    obtain ⟨fs, h1, h2, h3⟩ := katTups_of vs fun v hv => hh v (List.mem_cons_of_mem _ hv)
    obtain ⟨x, a, t, u, rfl, o, ho, hc, n, hd⟩ := hh v (List.mem_cons_self ..)
    refine ⟨.str x t :: fs, PySem.W.KatTups.cons ho hc hd rfl h1, by rw [List.length_cons, List.length_cons, h2], fun f hf => ?_⟩
    rcases List.mem_cons.mp hf with rfl | hf
    · exact ⟨x, t, rfl⟩
    · exact h3 f hf
theorem SortsPair {prog : Program} {w : World} {A : Around} {s : Shared} {vs : List Value} (hp : ∀ v ∈ vs, ∃ x, IsKP s.heap v x) (inj : ∀ v ∈ vs, ∀ v' ∈ vs, ∀ x, IsKP s.heap v x → IsKP s.heap v' x → v = v') : PySem.W.SortsAt prog w A s (pairKind s.heap vs) vs := by
  refine ⟨fun v hv => ?_, tuples' (Value.type "str" != Value.type "tuple"), ?_, fun h2 E Q hq => ?_⟩
  · obtain ⟨x, p⟩ := hp v hv
    exact ⟨_, pairKind_some hv p⟩
  · intro E x y a b Q ha hb hq
    obtain ⟨hx, zx, px, rfl⟩ := pairKind_inv ha
    obtain ⟨hy, zy, py, rfl⟩ := pairKind_inv hb
    have hq' : Q (PyProof.Rows.strKind.blt zx.cps.toList zy.cps.toList) s := hq
    by_cases e : zx = zy
    · subst e
      have exy := inj x hx y hy zx px py
      subst exy
      obtain ⟨a, t, u, rfl, o, ho, hc, n, hd⟩ := px
      refine PySem.W.kat_lt ho hd ho hd ?_
      show PySem.W.KatLex _ _ _ _ _ _ [(Value.str zx t, Value.str zx t), (u, u)] 0 s
      refine PySem.W.kat_cons (SeqAt.EqAt.same _ prog w _ _ (PySem.W.kat_yes (PySem.W.kat_cons (SeqAt.EqAt.same _ prog w _ _ (PySem.W.kat_yes (PySem.W.kat_nil ?_))))))
      rw [strKind.irrefl] at hq'
      have e2 : decide ((#[Value.str zx t, u] : Array Value).size < (#[Value.str zx t, u] : Array Value).size) = false := by simp
      rw [e2]
      exact hq'
    · obtain ⟨a, t, u, rfl, o, ho, hc, n, hd⟩ := px
      obtain ⟨b, t', u', rfl, o', ho', hc', n', hd'⟩ := py
      refine PySem.W.kat_lt ho hd ho' hd' ?_
      show PySem.W.KatLex _ _ _ _ _ _ [(Value.str zx t, Value.str zy t'), (u, u')] 0 s
      refine PySem.W.kat_cons (wpAny_eqBool_str ?_)
      rw [decide_eq_false e]
      refine PySem.W.kat_no ?_
      exact oneLt_str hq'
  · obtain ⟨fs, h1, h2', h3⟩ := katTups_of (h := s.heap) vs hp
    refine PySem.W.kat_kind (T := .type "str") h1 (by omega) (fun f hf => ?_) (beq_self_eq_true _) hq
    obtain ⟨x, t, rfl⟩ := h3 f hf
    exact PySem.W.Looks.of_pure rfl

/-- the tuples of a dict's items, laid and tracked -/
theorem tups_laid {X : Cx} {pins : List (Addr × Obj)} {σ : L2.St} {H : Hp} {s : Shared} {h' : Heap} {tk lo : Nat} {kvs : List (Key × V)} {vs : List (Key × Value)} {as : List Addr} (I : Inv X pins σ H s) (kv : KV kvs vs) (hlo : s.heap.objs.size ≤ lo)
    (hk : ∀ b o, s.heap.get? b = some o → h'.get? b = some o) (hl : as.length = vs.length) (hG : PySem.W.KdxG (mixKind X.prog X.w) vs lo h' as) :
    ∃ H' : Hp, (∀ b o, H b = some o → H' b = some o) ∧ (∀ b, b ∉ as → H' b = H b) ∧ Paired (fun (t : Addr) (q : Key × V) => H' t = some (.tup [kV q.1, q.2])) as kvs ∧ Inv X pins σ H' { s with heap := h', toks := tk } := by
  have lk : kvs.length = vs.length := Paired.length kv
  have nd : as.Nodup := List.Pairwise.imp (fun {a b} (h : a < b) => Nat.ne_of_lt h) hG.rise
  have new : ∀ t ∈ as, H t = none := fun t ht => I.hok.fresh (Nat.le_of_lt (Nat.lt_of_le_of_lt hlo (hG.above t ht)))
  have atP := LiI.putT_at as kvs H (by omega) nd
  have off : ∀ b, b ∉ as → LiI.putT H as kvs b = H b := fun b h1 => LiI.putT_off as kvs _ h1
  have low : ∀ b o, s.heap.get? b = some o → b ∉ as := fun b o e z => absurd (Heap.lt_size e) (Nat.not_lt.mpr (Nat.le_of_lt (Nat.lt_of_le_of_lt hlo (hG.above b z))))
  have kp : ∀ b u, H b = some u → LiI.putT H as kvs b = some u := fun b u e => by
    rw [off b fun z => by rw [new b z] at e; cases e]
    exact e
  refine ⟨LiI.putT H as kvs, kp, off, atP, ?_⟩
  refine I.call' (ch := []) rfl ⟨fun b o q _ _ _ => hk b o q, fun b o q _ _ _ => ⟨o.slots, hk b o q⟩, fun b o q n _ => ?_, fun b o q _ => ⟨o, hk b o q⟩, fun b xs q => kp b _ q, fun b o u q => kp b _ q, fun b ps q => ⟨#[], by rw [kp b _ q]; simp⟩⟩ (fun b u q => ?_) I.bare fun b z => by simp at z
  · rw [off b (low b o q)]
    exact n
  · by_cases hb : b ∈ as
    · obtain ⟨j, pk, e1, e2, e3⟩ := LiI.paired_ix atP hb
      rw [e3] at q
      cases q
      obtain ⟨key, k, x, f1, f2, f3⟩ := hG.pairs j b e1
      obtain ⟨qv, g1, g2, g3⟩ := LiI.paired_get kv e2
      rw [f1] at g1
      cases g1
      have rk : RelV (kV pk.1) key := by
        rw [g2]
        exact relV_key (show keyIs k key = true from f2)
      exact ⟨by show 2 ≤ sizeLine; decide, [key, x], .cons rk (.cons g3 .nil), ⟨_, f3, rfl, _, rfl⟩⟩
    · rw [off b hb] at q
      exact (I.hok b u q).stay (fun d v _ y => hk d v y) (fun d y => kp d _ y) fun d xs y => kp d _ y

def entS (p : Str × V) : Key × V := (Sum.inr p.1, p.2)
/-- sorted(e.items()): the pairs in some order -/
def rSortItems : V → Hp → VK → Prop := fun x H Q => ∃ (d : Addr) (ks : List (Str × V)), x = .ref d ∧ H d = some (.dK (ks.map entS)) ∧ (ks.map (·.1)).Nodup ∧ ks.length < 64 ∧
  ∀ (H' : Hp) (p : Addr) (ts : List Addr) (ys : List (Str × V)), (∀ b o, H b = some o → H' b = some o) → H p = none → ys.Perm ks → H' p = some (.lst (ts.map V.ref)) → Paired (fun (t : Addr) (q : Str × V) => H' t = some (.tup [.str q.1, q.2])) ts ys → Q (.ref p) H'
def tSortItems (te : TE) : TE := fun σ H Q => te σ H fun x H1 => rSortItems x H1 Q

theorem paired_of_each {α β : Type} {F : α → β → Prop} : ∀ {xs : List α} {ys : List β}, PySem.W.EachIs F xs ys → Paired F xs ys
  | _, _, .nil => .nil
  | _, _, .cons h t => .cons h (paired_of_each t)
theorem each_of_paired {α β : Type} {F : α → β → Prop} : ∀ {xs : List α} {ys : List β}, Paired F xs ys → PySem.W.EachIs F xs ys
  | _, _, .nil => .nil
  | _, _, .cons h t => .cons h (each_of_paired t)
theorem refs_of_each {F : Addr → (Str × V) → Prop} : ∀ {out : List Value} {ys : List (Str × V)}, PySem.W.EachIs (fun u q => ∃ t, u = Value.ref t ∧ F t q) out ys → ∃ ts : List Addr, out = ts.map Value.ref ∧ Paired F ts ys
  | _, _, .nil => ⟨[], rfl, .nil⟩
  | _, _, .cons ⟨t, e, h⟩ r => by
    obtain ⟨ts, e2, h2⟩ := refs_of_each r
    exact ⟨t :: ts, by rw [e, e2]; rfl, .cons h h2⟩
theorem each_refs {F : Addr → (Str × V) → Prop} : ∀ {ts : List Addr} {ys : List (Str × V)}, Paired F ts ys → PySem.W.EachIs (fun u q => ∃ t, u = Value.ref t ∧ F t q) (ts.map Value.ref) ys
  | _, _, .nil => .nil
  | _, _, .cons h r => .cons ⟨_, rfl, h⟩ (each_refs r)
theorem paired_map {α β γ : Type} {F : α → γ → Prop} (f : β → γ) : ∀ {xs : List α} {ys : List β}, Paired F xs (ys.map f) → Paired (fun a b => F a (f b)) xs ys
  | [], [], _ => .nil
  | [], _ :: _, h => nomatch h
  | _ :: _, [], h => nomatch h
  | _ :: _, _ :: _, .cons h t => .cons h (paired_map f t)
section
variable {X : Cx} {e : Expr} {te : TE} {p apos cpos pos : Pos}
theorem pe_sortItems (hc : X.calm = true) (he : PE X e te) (hg : Gl X "sorted") (hm : X.mg "sorted" = none) (hv : bootBuiltins "sorted" = some (.builtin "sorted")) (hbase : attributeBase e "items" X.env (eval e X.env) = eval e X.env := by rfl) (hline : (apos.endLine == cpos.line) = true := by rfl)
    (hs : starEach [.Call (.Attribute e "items" apos) [] [] cpos] X.env = (false, eval (.Call (.Attribute e "items" apos) [] [] cpos) X.env) :: starEach [] X.env := by rfl) :
    PE X (.Call (.Name "sorted" p) [.Call (.Attribute e "items" apos) [] [] cpos] [] pos) (tSortItems te) := by
  refine ⟨fun pins s σ H Q I hq => ?_⟩
  refine wpAny_Call_Name_kw (ld_blt I hg hm hv ?_)
  refine PyProof.Rows.callWith_builtin1 ?_ hs rfl
  rw [hs]
  show wpAny _ _ (spliced ((false, eval (.Call (.Attribute e "items" apos) [] [] cpos) X.env) :: backTo pos (starEach [] X.env))) _ _ s
  refine Calls.spliced_cons ?_
  refine wpAny_Call_method (T := "dict") (id := "dict.items") hbase rfl hline F.plainAttrs_dict F.slot_dict_items F.type_dict_items (thn (he.run pins s σ H _ I hq) fun u s1 ⟨x, H1, I1, rx, d, ks, ex, hd, hnd, h64, q⟩ => ?_)
  subst ex
  obtain rfl : u = Value.ref d := rx
  obtain ⟨hz, hs0, vs, kv, hdo⟩ := I1.hok d _ hd
  obtain ⟨ep, hat⟩ := hdo.dictAt
  have lk : (ks.map entS).length = vs.length := Paired.length kv
  rw [List.length_map] at lk
  have I2 : Inv X pins σ H1 { s1 with heap := s1.heap.push { cls := .type "dict_items", data := .fields #[.ref d] } } := I1.kept (t' := s1.toks) fun b ob q => Heap.get?_push_of_some _ q
  refine ⟨hdo.typeIs, hdo.mapOf.noDict, ?_⟩
  show wpAny _ _ (callWith cpos (.builtin "dict.items") [.ref d] [] []) _ X.xe s1
  refine method_meetsIn F.slot_dict_items F.entry_dict_items rfl (PySem.evalArgs_none ⟨rfl, hdo.typeIs, F.args_dict_items_1 _, _, meets_dict_items (mixKind X.prog X.w) d hs0, ⟨vs, hdo⟩, ?_⟩)
  refine Calls.spliced_nil ?_
  refine Calls.call_function_entry PyProof.Rows.kind_sorted PyProof.Rows.plain_sorted PyProof.Rows.entry_sorted (PyProof.Rows.args_sorted1 _) ?_
  unfold Builtin.«sorted»
  refine wpAny_bind (m := checkCount "sorted" 1 1 _) (wpAny_pure ?_)
  have hn16 : vs.length ≤ sizeLine := by rw [← lk, sizeLine_eq]; omega
  refine wpAny_bind (PySem.W.kdx_collect (A := X.A.in1) (knd := mixKind X.prog X.w) (kvs := vs) (ep := ep) (I1.ok.hd hc) ⟨_, Heap.get?_push_size _ rfl, rfl, rfl⟩ (hat.push _) hn16 fun h' tk as hk hl hG => ?_)
  obtain ⟨H', k1, k2, k3, J⟩ := tups_laid (tk := tk) I2 kv (Nat.le_refl _) hk hl hG
  have hal : (as.map Value.ref).length = ks.length := by rw [List.length_map, hl, lk]
  refine wpAny_bind (wpAny_newList ?_ (by rw [hal, sizeLine_eq]; omega))
  have hoL : (h'.push (seqObj "list" (as.map Value.ref).toArray 0)).get? h'.objs.size = some (seqObj "list" (as.map Value.ref).toArray 0) := Heap.get?_push_size _ rfl
  show wpAny _ _ _ _ _ { s1 with heap := h'.push (seqObj "list" (as.map Value.ref).toArray 0), toks := tk }
  -- what the items stand for
  have pr : Paired (fun (t : Addr) (q : Str × V) => H' t = some (.tup [.str q.1, q.2])) as ks := paired_map (F := fun (t : Addr) (q : Key × V) => H' t = some (.tup [kV q.1, q.2])) entS k3
  have er := each_refs pr
  let h3 := PySem.W.sortingHeap (h'.push (seqObj "list" (as.map Value.ref).toArray 0)) h'.objs.size (as.map Value.ref)
  have old3 : ∀ b o, h'.get? b = some o → h3.get? b = some o := fun b o e => PySem.W.sortingHeap_old (Nat.ne_of_lt (Heap.lt_size e)) (Heap.get?_push_of_some _ e)
  have isKP : ∀ (u : Value) (q : Str × V), (∃ t, u = Value.ref t ∧ H' t = some (.tup [.str q.1, q.2])) → IsKP h3 u q.1 := fun u q ⟨t, e1, e2⟩ => by
    obtain ⟨z, its, rv, ht⟩ := J.hok t _ e2
    cases rv with
    | cons r1 r2 =>
      cases r2 with
      | cons r3 r4 =>
        cases r4
        obtain ⟨tk1, rfl⟩ := r1
        exact ⟨t, tk1, _, e1, ht.keeps old3⟩
  have each3 : PySem.W.EachIs (fun u q => IsKP h3 u q.1) (as.map Value.ref) ks := er.mono isKP
  have kof : PySem.W.EachIs (fun (u : Value) (q : Str × V) => (pairKind h3 (as.map Value.ref)).keyOf u = some (.inr q.1.cps.toList)) (as.map Value.ref) ks := by
    have m : ∀ (us : List Value) (qs : List (Str × V)), (∀ u ∈ us, u ∈ as.map Value.ref) → PySem.W.EachIs (fun u q => IsKP h3 u q.1) us qs → PySem.W.EachIs (fun (u : Value) (q : Str × V) => (pairKind h3 (as.map Value.ref)).keyOf u = some (.inr q.1.cps.toList)) us qs := by
      intro us qs hm e
      induction e with
      | nil => exact .nil
      | cons h1 _ ih => exact .cons (pairKind_some (hm _ (List.mem_cons_self ..)) h1) (ih fun u hu => hm u (List.mem_cons_of_mem _ hu))
    exact m _ _ (fun _ h => h) each3
  have S : PySem.W.SortsAt X.prog X.w X.A.in1.in1 { s1 with heap := h3, toks := tk } (pairKind h3 (as.map Value.ref)) (as.map Value.ref) := by
    refine SortsPair (fun v hv => ?_) (fun v hv v' hv' x p1 p2 => ?_)
    · obtain ⟨q, _, hq⟩ := each3.left v hv
      exact ⟨_, hq⟩
    · have inj : ∀ (us : List Value) (qs : List (Str × V)), PySem.W.EachIs (fun u q => IsKP h3 u q.1) us qs → (qs.map (·.1)).Nodup → ∀ v ∈ us, ∀ v' ∈ us, IsKP h3 v x → IsKP h3 v' x → v = v' := by
        intro us qs e
        induction e with
        | nil => intro _ v hv; cases hv
        | @cons a b as' bs' h1 t ih =>
          intro nd v hv v' hv' p1 p2
          have nd' := List.nodup_cons.mp nd
          have far : ∀ z ∈ as', IsKP h3 z x → b.1 = x → False := fun z hz pz e => by
            obtain ⟨q, hq, hqq⟩ := t.left z hz
            refine nd'.1 ?_
            show b.1 ∈ List.map (fun x => x.fst) bs'
            rw [e, pz.uniq hqq]
            exact List.mem_map.mpr ⟨q, hq, rfl⟩
          rcases List.mem_cons.mp hv with ea | ha
          · subst ea
            rcases List.mem_cons.mp hv' with eb | hb
            · exact eb.symm
            · exact (far v' hb p2 (h1.uniq p1)).elim
          · rcases List.mem_cons.mp hv' with eb | hb
            · subst eb
              exact (far v ha p1 (h1.uniq p2)).elim
            · exact ih nd'.2 v ha v' hb p1 p2
      exact inj _ _ each3 hnd v hv v' hv' p1 p2
  refine wpAny_bind (wpAny_holding (wpAny_call_entry PyProof.Rows.slot_list_sort ⟨_, hoL, rfl⟩ PyProof.Rows.entry_list_sort
    (PySem.W.list_sort_vals (κ := pairKind h3 (as.map Value.ref)) hoL S (by rw [hal, sizeLine_eq]; omega) ⟨_, rfl, ?_⟩)
    (PyProof.Rows.args_list_sort _)))
  have eo := PySem.W.sortVals_each (κ := pairKind h3 (as.map Value.ref)) (rev := false) (fun q : Str × V => (Sum.inr q.1.cps.toList : Int ⊕ List Nat)) er kof
  obtain ⟨ts, e1, e2⟩ := refs_of_each eo
  rw [e1]
  obtain ⟨e', he'⟩ := PyProof.Rows.sortedHeap_at (vs := as.map Value.ref) (out := (ts.map Value.ref).toArray) hoL
  have hperm := List.mergeSort_perm ks (PySem.W.sortLe (pairKind h3 (as.map Value.ref)).toKeyOrd false fun q : Str × V => (Sum.inr q.1.cps.toList : Int ⊕ List Nat))
  have hlen : (ts.map V.ref).length ≤ sizeLine := by
    rw [List.length_map, Paired.length e2, hperm.length_eq, sizeLine_eq]
    omega
  have nB : H' h'.objs.size = none := J.hok.fresh (Nat.le_refl _)
  refine wpAny_pure ⟨_, rfl, .ref h'.objs.size, upd H' h'.objs.size (.lst (ts.map V.ref)), J.laid (t' := tk) (fun b u e => ?_) (Nat.le_refl _)
    (show ObjOk X.prog X.w _ _ _ (.lst (ts.map V.ref)) from ⟨hlen, ts.map Value.ref, e', LiI.vals_refs ts, he'⟩), rfl, q _ _ ts _ (fun b o hb => ?_) ?_ hperm upd_same ?_⟩
  · have hb : b < h'.objs.size := Heap.lt_size e
    rw [PyProof.Rows.sortedHeap_old (Nat.ne_of_lt hb) (by rw [size_push']; exact Nat.lt_succ_of_lt hb)]
    exact Heap.get?_push_of_some _ e
  · rw [upd_ne (ne_of_none (k1 _ _ hb) nB)]
    exact k1 _ _ hb
  · cases hH : H1 h'.objs.size with
    | none => rfl
    | some o => have := k1 _ _ hH; rw [nB] at this; cases this
  · refine Paired.mapP e2 fun t q ht => ?_
    rw [upd_ne (ne_of_none ht nB)]
    exact ht
end
end N97

/-! KaR3 -/
set_option maxRecDepth 100000
set_option maxHeartbeats 2000000
namespace N97
open PySem PySem.Spec PyProof.Rows L2

/-! ### tuples known as objects without a dict of their own -/
def NoD (o : Obj) : Prop := o.cls = .type "tuple" ∧ o.dict = none
def TF (H : Hp) (a : Addr) (xs : List V) : Prop := ∃ o, H a = some (.frz o (.tup xs)) ∧ NoD o
theorem TF.sq {K : PySem.W.Frag} {H : Hp} {a : Addr} {xs : List V} (h : TF H a xs) : SqT K H a xs := let ⟨o, e, _⟩ := h; .inl (.inr ⟨o, e⟩)
theorem TF.new {H : Hp} {p : Addr} {o : Obj} {xs : List V} (n : NoD o) : TF (upd H p (.frz o (.tup xs))) p xs := ⟨o, upd_same, n⟩
def tTupF (t : TA) : TE := fun σ H Q => t σ H fun xs H1 => xs.length ≤ sizeLine ∧ ∀ p o, H1 p = none → NoD o → Q (.ref p) (upd H1 p (.frz o (.tup xs)))
section
variable {X : Cx} {es : List Expr} {t : TA} {pos : Pos}
theorem pe_tupF {x1} (h : PA X es t) : PE X (.Tuple es x1 pos) (tTupF t) := by
  refine ⟨fun pins s σ H Q I hq => ?_⟩
  refine wpAny_Tuple_spliced (thn (h.run pos pins s σ H _ I hq) fun us s1 ⟨xs, H1, I1, r, z, q⟩ => ⟨by rw [← r.length]; exact z, ?_⟩)
  have hf : H1 s1.heap.objs.size = none := I1.hok.fresh (Nat.le_refl _)
  refine ⟨.ref s1.heap.objs.size, upd H1 s1.heap.objs.size (.frz { cls := .type "tuple", data := .seq us.toArray } (.tup xs)), I1.laid (t' := s1.toks) (fun b u e => Heap.get?_push_of_some _ e) (Nat.le_refl _) ?_, rfl, q _ _ hf ⟨rfl, rfl⟩⟩
  exact ⟨Heap.get?_push_size _ rfl, z, us, r, ⟨_, Heap.get?_push_size _ rfl, rfl, _, rfl⟩⟩
theorem call_tupleF : CallR X (.type "tuple") (fun xs H Q => ∃ p ys, xs = [.ref p] ∧ SqL X.K H p ys ∧ ∀ l o, H l = none → NoD o → Q (.ref l) (upd H l (.frz o (.tup ys)))) := by
  intro pins s σ H xs us Q I r h
  obtain ⟨p, ys, rfl, hq, q⟩ := h
  obtain ⟨u, rfl, rx⟩ := vals1 r
  cases rx
  obtain ⟨its, r', pl, hz⟩ := I.list hq
  have hlen := r'.length
  refine call_tuple_list pl.isList (fun h' kp => ?_) (by simp only [List.size_toArray] <;> omega)
  have I1 : Inv X pins σ H { s with heap := h' } := I.kept (t' := s.toks) kp
  have I2 : Inv X pins σ (upd H h'.objs.size (.frz { cls := .type "tuple", data := .seq its.toArray } (.tup ys))) { s with heap := h'.push { cls := .type "tuple", data := .seq its.toArray } } :=
    I1.laid (t' := s.toks) (fun b o e => Heap.get?_push_of_some _ e) (Nat.le_refl _) (show ObjOk X.prog X.w _ _ _ (.frz _ (.tup ys)) from ⟨Heap.get?_push_size _ rfl, hz, its, r', IsTup.new _ _⟩)
  exact ⟨.ref h'.objs.size, _, I2, rfl, q _ _ (I1.hok.fresh (Nat.le_refl _)) ⟨rfl, rfl⟩⟩

/-- dict(t), t a tuple of pairs -/
theorem call_dictT (hcalm : X.calm = true) : CallR X (.type "dict") (fun xs H Q => ∃ (a : Addr) (ps : List Addr) (kvs : List (Key × V)), xs = [.ref a] ∧ TF H a (ps.map V.ref) ∧ Paired (fun p kv => SqT X.K H p [kV kv.1, kv.2]) ps kvs ∧
    ∀ p, H p = none → Q (.ref p) (upd H p (.dK (mergeK [] kvs)))) := by
  intro pins s σ H xs us Q I r q
  obtain ⟨a, ps, kvs, ex, ⟨o, ho, hc, hd⟩, hp, q⟩ := q
  subst ex
  obtain ⟨u, eu, rx⟩ := vals1 r
  subst eu
  cases rx
  obtain ⟨hat, hz, its, rv, ht⟩ := I.hok a _ ho
  have ei := refs_at rv
  subst ei
  rw [List.length_map] at hz
  obtain ⟨prs, rel, hl, hpr⟩ := pairs_of I hp
  obtain ⟨o', e', _, n, hdat⟩ := id ht
  rw [hat] at e'
  cases e'
  -- the key's own value at each place
  let val : Nat → Value × Value := fun j => match ps[j]? with
    | some b => (match s.heap.get? b with
        | some ob => (match ob.data with
            | .seq xs _ => (xs.getD 0 .none, xs.getD 1 .none)
            | _ => (.none, .none))
        | none => (.none, .none))
    | none => (.none, .none)
  let vps : List (Value × Value) := (List.range ps.length).map val
  have hvl : vps.length = ps.length := by simp [vps]
  have hvj : ∀ (j : Nat) (q : Key × Value), prs[j]? = some q → ∃ b u, ps[j]? = some b ∧ IsTup s.heap b #[u, q.2] ∧ keyIs q.1 u = true ∧ vps[j]? = some (u, q.2) := fun j q e => by
    obtain ⟨b, u, e1, e2, e3⟩ := hpr j q e
    refine ⟨b, u, e1, e2, e3, ?_⟩
    obtain ⟨ob, eb, _, nb, db⟩ := e2
    have hj : j < ps.length := (List.getElem?_eq_some_iff.mp e1).1
    have hv : val j = (u, q.2) := by simp only [val, e1, eb, db]; rfl
    show ((List.range ps.length).map val)[j]? = _
    rw [List.getElem?_map, List.getElem?_range hj, Option.map_some, hv]
  refine call_dict_pairs (knd := mixKind X.prog X.w) (kvs := prs) (PairArg.tuple (prog := X.prog) (w := X.w) a (ps.map Value.ref).toArray (fun j => (ps[j]?).getD 0) vps) (I.ok.hd hcalm) ⟨⟨_, n, hat, hc, hd, hdat⟩, by simp [hvl], fun j k v e => ?_⟩ ⟨by rw [hl, hvl], fun i key v e => ?_⟩ (by rw [hvl]; exact hz) fun h' tk hd' k => ?_
  · have hj : j < ps.length := by rw [← hvl]; exact (List.getElem?_eq_some_iff.mp e).1
    obtain ⟨q, hq⟩ : ∃ q, prs[j]? = some q := ⟨prs[j], List.getElem?_eq_getElem (by omega)⟩
    obtain ⟨b, u, e1, e2, e3, e4⟩ := hvj j q hq
    rw [e] at e4
    cases e4
    exact ⟨by simp [e1], by show PairAt s.heap ((ps[j]?).getD 0) _ _; rw [e1]; exact .inl e2⟩
  · have hj : i < ps.length := by rw [← hvl]; exact (List.getElem?_eq_some_iff.mp (show vps[i]? = some (key, v) from e)).1
    obtain ⟨q, hq⟩ : ∃ q, prs[i]? = some q := ⟨prs[i], List.getElem?_eq_getElem (by omega)⟩
    obtain ⟨b, u, e1, e2, e3, e4⟩ := hvj i q hq
    have e' : vps[i]? = some (key, v) := e
    rw [e'] at e4
    cases e4
    exact ⟨q.1, hq, e3⟩
  · have hm : (s.heap.objs.size == sysModules) = false := beq_eq_false_iff_ne.mpr (Nat.ne_of_gt I.big)
    have hlen : (mergeK [] kvs).length ≤ sizeLine := by
      refine Nat.le_trans (length_mergeK kvs []) ?_
      rw [List.length_nil, Nat.zero_add, rel.length, hl]
      exact hz
    exact ⟨.ref s.heap.objs.size, upd H s.heap.objs.size (.dK (mergeK [] kvs)), I.laid (t' := tk) (fun b o e => k b o (by simp) e) (Nat.le_refl _) (show ObjOk X.prog X.w _ _ _ (.dK (mergeK [] kvs)) from ⟨hlen, hm, merged [] prs, KV.merge rel .nil, hd'⟩), rfl, q _ (I.hok.fresh (Nat.le_refl _))⟩

/-! ### a list against the empty list -/
def rEqNil (K : PySem.W.Frag) (neg : Bool) : R2 := fun x y H Q => ∃ a b xs, x = .ref a ∧ y = .ref b ∧ SqL K H a xs ∧ SqL K H b [] ∧ Q (.bl (if neg then !xs.isEmpty else xs.isEmpty)) H
theorem op_eqNil (hu : X.A.units < cLine) : OpR X (compareOp .Eq) (rEqNil X.K false) := by
  intro pins s σ H x y v u Q I rx ry h
  obtain ⟨a, b, xs, rfl, rfl, ha, hb, q⟩ := h
  cases rx
  cases ry
  obtain ⟨its, rv, pl, _⟩ := I.list ha
  obtain ⟨its2, rv2, pl2, _⟩ := I.list hb
  cases rv2
  cases xs with
  | nil =>
    cases rv
    refine SeqAt.RcAt.lists (e := fun _ => true) pl.isList pl2.isList rfl hu (fun j h1 _ => absurd h1 (by simp)) X.prog X.w X.xe _ ⟨.bl true, H, I, ?_, q⟩
    rfl
  | cons x0 xs =>
    cases rv with
    | cons r1 r2 =>
      exact SeqAt.RcAt.lists_lengths pl.isList pl2.isList (by simp) hu X.prog X.w X.xe _ ⟨.bl false, H, I, rfl, q⟩
theorem op_neNil (hu : X.A.units < cLine) : OpR X (compareOp .NotEq) (rEqNil X.K true) := by
  intro pins s σ H x y v u Q I rx ry h
  obtain ⟨a, b, xs, rfl, rfl, ha, hb, q⟩ := h
  cases rx
  cases ry
  obtain ⟨its, rv, pl, _⟩ := I.list ha
  obtain ⟨its2, rv2, pl2, _⟩ := I.list hb
  cases rv2
  cases xs with
  | nil =>
    cases rv
    refine SeqAt.RcNeAt.lists (e := fun _ => true) pl.isList pl2.isList rfl hu (fun j h1 _ => absurd h1 (by simp)) X.prog X.w X.xe _ ⟨.bl false, H, I, ?_, q⟩
    rfl
  | cons x0 xs =>
    cases rv with
    | cons r1 r2 =>
      exact SeqAt.RcNeAt.lists_lengths pl.isList pl2.isList (by simp) hu X.prog X.w X.xe _ ⟨.bl true, H, I, rfl, q⟩
end

/-! ### zip of a text and a tuple -/
def ItzX (K : PySem.W.Frag) (x : Str) (b : Addr) : It :=
  ⟨fun i H => ∃ (ys : List V) (c : Nat) (y : V), SqT K H b ys ∧ x.cps[i]? = some c ∧ ys[i]? = some y,
    fun i H v H' => ∃ T c y, v = .ref T ∧ H T = none ∧ H' = upd H T (.tup [.str ⟨#[c]⟩, y]) ∧ x.cps[i]? = some c ∧ ∀ ys, SqT K H b ys → ys[i]? = some y,
    fun i H => ∃ ys : List V, SqT K H b ys ∧ i ≤ x.cps.size ∧ i ≤ ys.length ∧ (i = x.cps.size ∨ i = ys.length)⟩
theorem turn_zipX {P : Program} {w : World} {K : PySem.W.Frag} {elts : List Expr} {kk : Nat} {tpos : Pos} {b z TI TO i1 i2 : Addr} {x : Str} {t : Tok} (D : ZipSep2 z TI TO i1 i2 [i1] [i2, b]) (hbi : b ≠ i2) :
    Turn P w K (.Tuple elts kk tpos) (ItzX K x b) [z, TI, TO, i1, i2] z (fun i h => IsZip h z TI TO .none ∧ IsTupOf2 h TI (.ref i1) (.ref i2) ∧ (∃ x y, IsTupOf2 h TO x y) ∧ h.IsStrIter i1 (strIterType x) x t i ∧ h.IsTupleIter i2 b i) where
  mem := by simp
  obj := fun i h st c hc => by
    obtain ⟨hz, hTI, ⟨x, y, hTO⟩, ⟨o1, e1, _, d1⟩, ⟨o2, e2, _, d2⟩⟩ := st
    have e' : c = z ∨ c = TI ∨ c = TO ∨ c = i1 ∨ c = i2 := by simpa using hc
    rcases e' with q | q | q | q | q
    · rw [q]; exact ⟨_, hz, fun v q => nomatch q⟩
    · rw [q]; exact ⟨_, hTI, fun v q => nomatch q⟩
    · rw [q]; exact ⟨_, hTO, fun v q => nomatch q⟩
    · rw [q]; exact ⟨o1, e1, fun v q => by rw [d1] at q; cases q⟩
    · rw [q]; exact ⟨o2, e2, fun v q => by rw [d2] at q; cases q⟩
  keep := fun i h h' st k => by
    obtain ⟨hz, hTI, ⟨x, y, hTO⟩, ⟨o1, e1, r1⟩, h2⟩ := st
    exact ⟨k z (by simp) _ hz, k TI (by simp) _ hTI, ⟨x, y, k TO (by simp) _ hTO⟩, ⟨o1, k i1 (by simp) _ e1, r1⟩, h2.at fun o q => k i2 (by simp) o q⟩
  item := by
    intro X hP hw hK hc i pins s σ H E I hf st hg
    subst hP hw hK
    obtain ⟨hz, hTI, ⟨x0, y0, hTO⟩, h1, h2⟩ := st
    obtain ⟨ys, c, y, hqy, hx, hy⟩ := hg
    obtain ⟨its2, rv2, p2, _⟩ := I.tuple hqy
    obtain ⟨u2, hu2, ru2⟩ := rv2.get hy
    have hzl : z < s.heap.objs.size := Heap.lt_size hz
    have hh : X.A.in1.handled = none := I.ok.hd hc
    have D1 := Draws.text (prog := X.prog) (w := X.w) (A := X.A.in1) hh i1 x t
    have D2 := Draws.tuple (prog := X.prog) (w := X.w) (A := X.A.in1) hh i2 b hbi its2.toArray
    have lt2 : i < its2.toArray.size := by
      have q : its2[i]? = some u2 := hu2
      have := (List.getElem?_eq_some_iff.mp q).1
      simpa using this
    refine wpAny_pyNext_zipD2_item D D1 D2 hz hTI hTO h1 ⟨h2, p2⟩ (Array.getElem?_eq_some_iff.mp hx).1 lt2 fun x1 x2 h' tk hx1 hx2 z' TO' st1 st2 hT hsz hk => ?_
    obtain ⟨c', tc, hc', rfl⟩ := hx1
    rw [hx] at hc'
    cases hc'
    have ex2 : x2 = u2 := by
      have q : its2.toArray[i]? = some u2 := by simpa using hu2
      exact Option.some.inj (hx2.symm.trans q)
    subst ex2
    refine ⟨_, rfl, wpAny_letOwnedTupleGo_zip (s := { s with heap := h', toks := tk }) z' fun h'' z'' sb => ?_⟩
    have hT2 : h''.get? s.heap.objs.size = some { cls := .type "tuple", data := .seq #[.str ⟨#[c]⟩ tc, x2] } := (sb.2 _ (Nat.ne_of_gt hzl)).trans hT
    have new : ObjOk X.prog X.w (upd H s.heap.objs.size (.tup [.str ⟨#[c]⟩, y])) h'' s.heap.objs.size (.tup [.str ⟨#[c]⟩, y]) :=
      ⟨by show 2 ≤ sizeLine; decide, [.str ⟨#[c]⟩ tc, x2], .cons ⟨_, rfl⟩ (.cons ru2 .nil), ⟨_, hT2, rfl, _, rfl⟩⟩
    have keep : ∀ c o, c ∉ [z, TI, TO, i1, i2] → s.heap.get? c = some o → h''.get? c = some o := fun c o hb q =>
      (sb.2 c (fun q' => hb (by simp [q']))).trans (hk c o (fun q' => hb (by simp [q'])) (fun q' => hb (by simp [q'])) (fun q' => hb (by simp [q'])) (fun q' => hb (by simp [q'])) q)
    have I1 : Inv X pins σ (upd H s.heap.objs.size (.tup [.str ⟨#[c]⟩, y])) { s with heap := h'', toks := tk } :=
      I.turnedNew (t' := tk) (ch := [z, TI, TO, i1, i2]) keep hf (Nat.le_refl _) new
    obtain ⟨o1, e1, r1⟩ := st1
    refine ⟨.ref s.heap.objs.size, _, I1, rfl, ⟨_, c, y, rfl, I.hok.fresh (Nat.le_refl _), rfl, hx, fun l hl => by rw [I.tuple_inj hl hqy]; exact hy⟩, ⟨z'', ?_, ⟨.str ⟨#[c]⟩ tc, x2, ?_⟩, ?_, ?_⟩, fun c hcm => ?_⟩
    · exact (sb.2 _ D.TIz).trans (hk _ _ D.TIz D.TITO D.TIi1 D.TIi2 hTI)
    · exact (sb.2 _ D.TOz).trans TO'
    · exact ⟨o1, (sb.2 _ D.zi1.symm).trans e1, r1⟩
    · exact st2.1.at fun o q => (sb.2 _ D.zi2.symm).trans q
    · have hlt : c < s.heap.objs.size := by
        have e' : c = z ∨ c = TI ∨ c = TO ∨ c = i1 ∨ c = i2 := by simpa using hcm
        rcases e' with q | q | q | q | q
        · rw [q]; exact hzl
        · rw [q]; exact Heap.lt_size hTI
        · rw [q]; exact Heap.lt_size hTO
        · rw [q]; obtain ⟨_, e1, _⟩ := h1; exact Heap.lt_size e1
        · rw [q]; obtain ⟨_, e2, _⟩ := h2; exact Heap.lt_size e2
      rw [upd_ne (Nat.ne_of_lt hlt)]
      exact (hf c hcm).1
  done := by
    intro X hP hw hK hc i pins s σ H E I hf st hg
    subst hP hw hK
    obtain ⟨hz, hTI, ⟨x0, y0, hTO⟩, h1, h2⟩ := st
    obtain ⟨ys, hqy, hi1, hi2, hend⟩ := hg
    obtain ⟨its2, rv2, p2, _⟩ := I.tuple hqy
    have l2 := rv2.length
    have hh : X.A.in1.handled = none := I.ok.hd hc
    have D1 := Draws.text (prog := X.prog) (w := X.w) (A := X.A.in1) hh i1 x t
    have D2 := Draws.tuple (prog := X.prog) (w := X.w) (A := X.A.in1) hh i2 b hbi its2.toArray
    have sz : its2.toArray.size = ys.length := by simp [l2]
    refine wpAny_pyNext_zipD2_end D D1 D2 hz hTI hTO h1 ⟨h2, p2⟩ hi1 (by rw [sz]; exact hi2) (by rw [sz]; exact hend) fun h' tk hk => ⟨rfl, I.turnedL (t' := tk) (ch := [z, TI, TO, i1, i2]) (fun c o hb q =>
      hk c o (fun q' => hb (by simp [q'])) (fun q' => hb (by simp [q'])) (fun q' => hb (by simp [q'])) (fun q' => hb (by simp [q'])) q) hf⟩
  self := fun A i s Q E st h => wpAny_pyIter_zip st.1 h

def iZipX (K : PySem.W.Frag) (ta : TA) : TI := fun σ H R => ta σ H fun vs H1 => ∃ x b ys, vs = [.str x, .ref b] ∧ SqT K H1 b ys ∧ R (ItzX K x b) H1
theorem pi_zipX {X : Cx} {e e2 : Expr} {ta : TA} {p pos tpos : Pos} {elts : List Expr} {kk : Nat} (hg : Gl X "zip") (hm : X.mg "zip" = none) (ha : PA X [e, e2] ta)
    (hs : starEach [e, e2] X.env = (false, eval e X.env) :: starEach [e2] X.env := by rfl) (hpl : (backTo pos (starEach [e2] X.env)).any (·.1) = false := by rfl) :
    PI X (.Tuple elts kk tpos) (.Call (.Name "zip" p) [e, e2] [] pos) (iZipX X.K ta) := by
  refine ⟨fun pins s σ H R I h => ?_⟩
  refine Call_ (ld_blt I hg hm PyProof.Rows.boot_zip (PyProof.Rows.callWith_type1 (thn (ha.run pos pins s σ H _ I h) fun us s1 ⟨vs, H1, I1, r1, q1⟩ => ?_) hs hpl))
  obtain ⟨x, b, ys, ex, hqy, q⟩ := q1
  subst ex
  obtain ⟨u, w', rfl, ⟨t, rfl⟩, r'⟩ := vals2 r1
  cases r'
  have fresh5 : ∀ c, c ∈ [s1.heap.objs.size + 4, s1.heap.objs.size + 2, s1.heap.objs.size + 3, s1.heap.objs.size, s1.heap.objs.size + 1] → FpOk X pins H1 c := fun c hcm => by
    have e' : c = s1.heap.objs.size + 4 ∨ c = s1.heap.objs.size + 2 ∨ c = s1.heap.objs.size + 3 ∨ c = s1.heap.objs.size ∨ c = s1.heap.objs.size + 1 := by simpa using hcm
    have hle : s1.heap.objs.size ≤ c := by
      rcases e' with z | z | z | z | z
      · rw [z]; exact Nat.le_add_right _ _
      · rw [z]; exact Nat.le_add_right _ _
      · rw [z]; exact Nat.le_add_right _ _
      · rw [z]; exact Nat.le_refl _
      · rw [z]; exact Nat.le_add_right _ _
    exact I1.fpOk hle (I1.hok.fresh hle)
  obtain ⟨its2, rv2, p2, _⟩ := I1.tuple hqy
  obtain ⟨o2, ho2, _⟩ := id p2
  have hb : b < s1.heap.objs.size := Heap.lt_size ho2
  have far : ∀ {m n : Nat}, m ≠ n → s1.heap.objs.size + m ≠ s1.heap.objs.size + n := fun h => by omega
  refine zip_begins2 (begins_text x t) (begins_tuple b its2.toArray) trivial p2 fun h' hz hTI hTO g1 g2 hsz hk => wpAny_pyIter_zip hz ?_
  have I2 : Inv X pins σ H1 { s1 with heap := h' } := I1.kept (t' := s1.toks) hk
  have hne : ∀ n : Nat, b ≠ s1.heap.objs.size + n := fun n => Nat.ne_of_lt (Nat.lt_of_lt_of_le hb (Nat.le_add_right _ _))
  have hne0 : b ≠ s1.heap.objs.size := Nat.ne_of_lt hb
  have sep : ZipSep2 (s1.heap.objs.size + 4) (s1.heap.objs.size + 2) (s1.heap.objs.size + 3) s1.heap.objs.size (s1.heap.objs.size + 1) [s1.heap.objs.size] [s1.heap.objs.size + 1, b] := by
    generalize s1.heap.objs.size = n at hne hne0
    constructor <;> simp <;> first | (intro z; exact hne _ z.symm) | exact ⟨by omega, fun z => hne _ z.symm⟩ | (intro z; exact hne0 z.symm) | omega | skip
  exact ⟨s1.heap.objs.size + 4, [s1.heap.objs.size + 4, s1.heap.objs.size + 2, s1.heap.objs.size + 3, s1.heap.objs.size, s1.heap.objs.size + 1], _, _, H1, rfl, I2, turn_zipX sep (hne 1), ⟨hz, hTI, ⟨_, _, hTO⟩, ⟨_, g1, rfl, rfl⟩, ⟨_, g2, rfl, rfl⟩⟩, fresh5, q⟩
end N97

/-! KaP1 -/
set_option maxRecDepth 100000
namespace N97
open PySem

/-! ### kinds -/
inductive Kd where
  | num | word | level | deep
  | bag (k : Kd)
  deriving DecidableEq
def Kd.tag : Kd → Str
  | .num => "num" | .word => "word" | .level => "row" | .deep => "row" | .bag _ => "bag"
def Kd.enc : Kd → PyData
  | .num => .tuple [.str "num"]
  | .word => .tuple [.str "word"]
  | .level => .tuple [.str "row", .tuple [.tuple [.str "b", .tuple [.str "word"]], .tuple [.str "r", .tuple [.str "num"]]]]
  | .deep => .tuple [.str "row", .tuple [.tuple [.str "a", .tuple [.str "num"]], .tuple [.str "b", .tuple [.str "word"]], .tuple [.str "t", .tuple [.str "bag", .tuple [.str "num"]]], .tuple [.str "z", .tuple [.str "word"]]]]
  | .bag k => .tuple [.str "bag", k.enc]
def Kd.fields : Kd → List (Str × Kd)
  | .level => [("b", .word), ("r", .num)]
  | .deep => [("a", .num), ("b", .word), ("t", .bag .num), ("z", .word)]
  | _ => []
def Kd.rank : Kd → Nat
  | .num => 1 | .word => 1 | .level => 2 | .deep => 4 | .bag k => k.rank + 1
/-- the kinds of the tables' rows -/
def kdOf (t : Str) : Option Kd :=
  if t = "r" then some .level else if t = "s" then some .level else if t = "t" then some .num else if t = "u" then some .deep else if t = "v" then some (.bag .word) else none
def T5 : List Str := ["r", "s", "t", "u", "v"]

def items : PyData → List PyData
  | .tuple xs => xs
  | _ => []

/-! ### values -/
inductive Val where
  | num (n : Int) | word (s : Str)
  | row (fs : Val) | bag (rs : Val)
  | nil | fcons (f : Str) (v r : Val) | bcons (v : Val) (c : Int) (r : Val)
  deriving DecidableEq
namespace Val
def enc : Val → PyData
  | num n => .tuple [.str "num", .int n]
  | word s => .tuple [.str "word", .str s]
  | row fs => .tuple [.str "row", fs.enc]
  | bag rs => .tuple [.str "bag", rs.enc]
  | nil => .tuple []
  | fcons f v r => .tuple (.tuple [.str f, v.enc] :: items r.enc)
  | bcons v c r => .tuple (.tuple [v.enc, .int c] :: items r.enc)
def key : Val → PyData
  | num n => .tuple [.int 0, .int n]
  | word s => .tuple [.int 1, .str s]
  | row fs => .tuple [.int 2, fs.key]
  | bag rs => .tuple [.int 3, rs.key]
  | nil => .tuple []
  | fcons f v r => .tuple (.tuple [.str f, v.key] :: items r.key)
  | bcons v c r => .tuple (.tuple [v.key, .int c] :: items r.key)
def ofF : List (Str × Val) → Val
  | [] => nil
  | (f, v) :: r => fcons f v (ofF r)
def ofR : List (Val × Int) → Val
  | [] => nil
  | (v, c) :: r => bcons v c (ofR r)
def spF : Val → List (Str × Val)
  | fcons f v r => (f, v) :: spF r
  | _ => []
def spR : Val → List (Val × Int)
  | bcons v c r => (v, c) :: spR r
  | _ => []
/-- a row's fields, a bag's rows, a number -/
def fields : Val → List (Str × Val)
  | row fs => spF fs
  | _ => []
def rows : Val → List (Val × Int)
  | bag rs => spR rs
  | _ => []
def numOf : Val → Int
  | num n => n
  | _ => 0
@[simp] theorem spF_ofF : ∀ l, spF (ofF l) = l
  | [] => rfl
  | (f, v) :: r => by simp [ofF, spF, spF_ofF r]
@[simp] theorem spR_ofR : ∀ l, spR (ofR l) = l
  | [] => rfl
  | (f, v) :: r => by simp [ofR, spR, spR_ofR r]
theorem enc_ofF : ∀ l : List (Str × Val), (ofF l).enc = .tuple (l.map fun p => .tuple [.str p.1, p.2.enc])
  | [] => rfl
  | (f, v) :: r => by simp [ofF, enc, enc_ofF r, items]
theorem enc_ofR : ∀ l : List (Val × Int), (ofR l).enc = .tuple (l.map fun p => .tuple [p.1.enc, .int p.2])
  | [] => rfl
  | (f, v) :: r => by simp [ofR, enc, enc_ofR r, items]
theorem key_ofF : ∀ l : List (Str × Val), (ofF l).key = .tuple (l.map fun p => .tuple [.str p.1, p.2.key])
  | [] => rfl
  | (f, v) :: r => by simp [ofF, key, key_ofF r, items]
theorem key_ofR : ∀ l : List (Val × Int), (ofR l).key = .tuple (l.map fun p => .tuple [p.1.key, .int p.2])
  | [] => rfl
  | (f, v) :: r => by simp [ofR, key, key_ofR r, items]
theorem enc_tup : ∀ v : Val, ∃ xs, v.enc = .tuple xs := fun v => by cases v <;> exact ⟨_, rfl⟩
theorem key_tup : ∀ v : Val, ∃ xs, v.key = .tuple xs := fun v => by cases v <;> exact ⟨_, rfl⟩
theorem items_inj {a b : PyData} (ha : ∃ xs, a = .tuple xs) (hb : ∃ xs, b = .tuple xs) (h : items a = items b) : a = b := by
  obtain ⟨xs, rfl⟩ := ha
  obtain ⟨ys, rfl⟩ := hb
  exact congrArg PyData.tuple h
theorem key_inj : ∀ v w : Val, v.key = w.key → v = w := by
  intro v
  induction v with
  | num n => intro w h; cases w <;> simp [key] at h <;> simp_all
  | word s => intro w h; cases w <;> simp [key] at h <;> simp_all
  | row fs ih => intro w h; cases w <;> simp [key] at h; rw [ih _ h]
  | bag rs ih => intro w h; cases w <;> simp [key] at h; rw [ih _ h]
  | nil => intro w h; cases w <;> simp [key] at h <;> rfl
  | fcons f v r ih1 ih2 =>
    intro w h
    cases w with
    | fcons f' v' r' =>
      simp [key] at h
      obtain ⟨⟨e1, e2⟩, e3⟩ := h
      rw [e1, ih1 _ e2, ih2 _ (items_inj (key_tup _) (key_tup _) e3)]
    | bcons v' c' r' =>
      simp [key] at h
      obtain ⟨xs, e⟩ := key_tup v'
      rw [e] at h
      exact absurd h.1.1 (by simp)
    | _ => simp [key] at h
  | bcons v c r ih1 ih2 =>
    intro w h
    cases w with
    | bcons v' c' r' =>
      simp [key] at h
      obtain ⟨⟨e1, e2⟩, e3⟩ := h
      rw [e2, ih1 _ e1, ih2 _ (items_inj (key_tup _) (key_tup _) e3)]
    | fcons f' v' r' =>
      simp [key] at h
      obtain ⟨xs, e⟩ := key_tup v
      rw [e] at h
      exact absurd h.1.1 (by simp)
    | _ => simp [key] at h
theorem enc_inj : ∀ v w : Val, v.enc = w.enc → v = w := by
  intro v
  induction v with
  | num n => intro w h; cases w <;> simp [enc] at h <;> first | (rw [h]) | exact absurd h (by decide) | exact absurd h.1 (by decide)
  | word s => intro w h; cases w <;> simp [enc] at h <;> first | (rw [h]) | exact absurd h (by decide) | exact absurd h.1 (by decide)
  | row fs ih => intro w h; cases w <;> simp [enc] at h <;> first | (rw [ih _ h]) | exact absurd h.1 (by decide)
  | bag rs ih => intro w h; cases w <;> simp [enc] at h <;> first | (rw [ih _ h]) | exact absurd h.1 (by decide)
  | nil => intro w h; cases w <;> simp [enc] at h <;> rfl
  | fcons f v r ih1 ih2 =>
    intro w h
    cases w with
    | fcons f' v' r' =>
      simp [enc] at h
      obtain ⟨⟨e1, e2⟩, e3⟩ := h
      rw [e1, ih1 _ e2, ih2 _ (items_inj (enc_tup _) (enc_tup _) e3)]
    | bcons v' c' r' =>
      simp [enc] at h
      obtain ⟨xs, e⟩ := enc_tup v'
      rw [e] at h
      exact absurd h.1.1 (by simp)
    | _ => simp [enc] at h
  | bcons v c r ih1 ih2 =>
    intro w h
    cases w with
    | bcons v' c' r' =>
      simp [enc] at h
      obtain ⟨⟨e1, e2⟩, e3⟩ := h
      rw [e2, ih1 _ e1, ih2 _ (items_inj (enc_tup _) (enc_tup _) e3)]
    | fcons f' v' r' =>
      simp [enc] at h
      obtain ⟨xs, e⟩ := enc_tup v
      rw [e] at h
      exact absurd h.1.1 (by simp)
    | _ => simp [enc] at h
end Val

/-- a value is of a kind, and no bag in it is too long -/
def HasK : Kd → Val → Prop
  | .num, v => ∃ n, v = .num n
  | .word, v => ∃ s, v = .word s
  | .level, v => ∃ s n, v = .row (.ofF [("b", .word s), ("r", .num n)])
  | .deep, v => ∃ n s z, ∃ ts : List (Int × Int), ts.length ≤ 16777216 ∧ v = .row (.ofF [("a", .num n), ("b", .word s), ("t", .bag (.ofR (ts.map fun p => (.num p.1, p.2)))), ("z", .word z)])
  | .bag k, v => ∃ l : List (Val × Int), v = .bag (.ofR l) ∧ l.length ≤ 16777216 ∧ ∀ p ∈ l, HasK k p.1

/-! ### bags -/
/-- the sort's datum of a counted row -/
def sdat (p : Val × Int) : PyData := .tuple [p.1.key, p.1.enc, .int p.2]
/-- a row joins the last one where they are alike -/
def joinR (acc : List (Val × Int)) (p : Val × Int) : List (Val × Int) :=
  match acc.getLast? with
  | some q => if q.1 = p.1 then acc.dropLast ++ [(p.1, p.2 + q.2)] else acc ++ [p]
  | none => acc ++ [p]
def bagL (l : List (Val × Int)) : List (Val × Int) := ((l.mergeSort (PySem.W.dataLe false sdat)).foldl joinR []).filter fun p => decide (p.2 ≠ 0)
def mkBag (l : List (Val × Int)) : Val := .bag (.ofR (bagL l))
def cnt (v : Val) (l : List (Val × Int)) : Int := (l.map fun p => if p.1 = v then p.2 else 0).sum
def scale (m : Int) (l : List (Val × Int)) : List (Val × Int) := l.map fun p => (p.1, m * p.2)

/-! ### questions and claims -/
inductive Q where
  | num (n : Int) | word (s : Str) | var (x : Str) | table (t : Str)
  | row (fs : Q) | fnil | fcons (f : Str) (q r : Q)
  | att (f : Str) (q : Q) | add (a b : Q) | mul (a b : Q)
  | none_ (k : Kd) | one (q : Q) | both (a b : Q) | times (m : Int) (q : Q)
  | for_ (x : Str) (a b : Q) | when_ (t q : Q) | let_ (x : Str) (a b : Q)
  | same (a b : Q) | under (a b : Q) | and_ (a b : Q) | or_ (a b : Q) | not_ (a : Q)
  deriving DecidableEq
namespace Q
def enc : Q → PyData
  | num n => .tuple [.str "num", .int n]
  | word s => .tuple [.str "word", .str s]
  | var x => .tuple [.str "var", .str x]
  | table t => .tuple [.str "table", .str t]
  | row fs => .tuple [.str "row", fs.enc]
  | fnil => .tuple []
  | fcons f q r => .tuple (.tuple [.str f, q.enc] :: items r.enc)
  | att f q => .tuple [.str "at", .str f, q.enc]
  | add a b => .tuple [.str "add", a.enc, b.enc]
  | mul a b => .tuple [.str "mul", a.enc, b.enc]
  | none_ k => .tuple [.str "none", k.enc]
  | one q => .tuple [.str "one", q.enc]
  | both a b => .tuple [.str "both", a.enc, b.enc]
  | times m q => .tuple [.str "times", .int m, q.enc]
  | for_ x a b => .tuple [.str "for", .str x, a.enc, b.enc]
  | when_ t q => .tuple [.str "when", t.enc, q.enc]
  | let_ x a b => .tuple [.str "let", .str x, a.enc, b.enc]
  | same a b => .tuple [.str "same", a.enc, b.enc]
  | under a b => .tuple [.str "under", a.enc, b.enc]
  | and_ a b => .tuple [.str "and", a.enc, b.enc]
  | or_ a b => .tuple [.str "or", a.enc, b.enc]
  | not_ a => .tuple [.str "not", a.enc]
def ofF : List (Str × Q) → Q
  | [] => fnil
  | (f, q) :: r => fcons f q (ofF r)
def spF : Q → List (Str × Q)
  | fcons f q r => (f, q) :: spF r
  | _ => []
@[simp] theorem spF_ofF : ∀ l, spF (ofF l) = l
  | [] => rfl
  | (f, v) :: r => by simp [ofF, spF, spF_ofF r]
theorem enc_ofF : ∀ l : List (Str × Q), (ofF l).enc = .tuple (l.map fun p => .tuple [.str p.1, p.2.enc])
  | [] => rfl
  | (f, v) :: r => by simp [ofF, enc, enc_ofF r, items]
end Q
end N97

/-! KaW0 -/
set_option maxRecDepth 100000
set_option maxHeartbeats 1000000
namespace N97
open PySem PySem.Spec PyProof.Rows L2

/-! ### the text -/
def topS (i : Nat) : Stmt := PySem.Challenge.pw_keptnest_k97_whole_alternating_sums.main.body.getD i (.Pass ⟨0, 0, 0, 0⟩)

/-! ### data of numbers, texts and tuples -/
mutual
def pd : PyData → Bool
  | .int _ => true
  | .str _ => true
  | .tuple xs => pdAll xs
  | _ => false
def pdAll : List PyData → Bool
  | [] => true
  | x :: xs => pd x && pdAll xs
end
mutual
theorem pd_plain : ∀ d : PyData, pd d = true → d.plain = true
  | .int _, _ => by simp [PyData.plain]
  | .str _, _ => by simp [PyData.plain]
  | .tuple xs, h => by
    rw [PyData.plain]
    exact pdAll_plain xs (by simpa [pd] using h)
  | .none, h => absurd h (by simp [pd])
  | .bool _, h => absurd h (by simp [pd])
  | .list _, h => absurd h (by simp [pd])
  | .dict _, h => absurd h (by simp [pd])
theorem pdAll_plain : ∀ ds : List PyData, pdAll ds = true → PyData.plainAll ds = true
  | [], _ => by simp [PyData.plainAll]
  | x :: xs, h => by
    simp only [pdAll, Bool.and_eq_true] at h
    simp only [PyData.plainAll, pd_plain x h.1, pdAll_plain xs h.2, Bool.and_self]
end
mutual
theorem pd_eqv : ∀ d e : PyData, pd d = true → pd e = true → PyData.eqv d e = true → d = e
  | .int i, e, _, he, h => by
    cases e <;> simp [pd] at he <;> simp [PyData.eqv] at h
    rw [h]
  | .str i, e, _, he, h => by
    cases e <;> simp [pd] at he <;> simp [PyData.eqv] at h
    rw [h]
  | .tuple xs, e, hd, he, h => by
    cases e with
    | tuple ys =>
      simp only [PyData.eqv] at h
      rw [pdAll_eqv xs ys (by simpa [pd] using hd) (by simpa [pd] using he) h]
    | _ => simp [PyData.eqv] at h
  | .none, _, h, _, _ => absurd h (by simp [pd])
  | .bool _, _, h, _, _ => absurd h (by simp [pd])
  | .list _, _, h, _, _ => absurd h (by simp [pd])
  | .dict _, _, h, _, _ => absurd h (by simp [pd])
theorem pdAll_eqv : ∀ xs ys : List PyData, pdAll xs = true → pdAll ys = true → PyData.eqvAll xs ys = true → xs = ys
  | [], [], _, _, _ => rfl
  | [], _ :: _, _, _, h => by simp [PyData.eqvAll] at h
  | _ :: _, [], _, _, h => by simp [PyData.eqvAll] at h
  | x :: xs, y :: ys, hx, hy, h => by
    simp only [pdAll, Bool.and_eq_true] at hx hy
    simp only [PyData.eqvAll, Bool.and_eq_true] at h
    rw [pd_eqv x y hx.1 hy.1 h.1, pdAll_eqv xs ys hx.2 hy.2 h.2]
end
theorem pd_iff {d e : PyData} (hd : pd d = true) (he : pd e = true) : PyData.eqv d e = true ↔ d = e :=
  ⟨pd_eqv d e hd he, fun h => by subst h; exact SeqAt.eqv_refl_plain d (pd_plain d hd)⟩

/-! ### data in the heap -/
mutual
inductive Tp (H : Hp) : V → PyData → Prop
  | int (i : Int) : Tp H (.int i) (.int i)
  | str (x : Str) : Tp H (.str x) (.str x)
  | tup {a : Addr} {xs : List V} {ds : List PyData} : TF H a xs → TpAll H xs ds → Tp H (.ref a) (.tuple ds)
inductive TpAll (H : Hp) : List V → List PyData → Prop
  | nil : TpAll H [] []
  | cons {v : V} {vs : List V} {d : PyData} {ds : List PyData} : Tp H v d → TpAll H vs ds → TpAll H (v :: vs) (d :: ds)
end
mutual
theorem Tp.dp {K : PySem.W.Frag} {H : Hp} : ∀ (d : PyData) (v : V), Tp H v d → Dp K H v d
  | _, _, .int i => .int i
  | _, _, .str x => .str x
  | .tuple ds, _, .tup h t => .tup h.sq (TpAll.dp ds _ t)
theorem TpAll.dp {K : PySem.W.Frag} {H : Hp} : ∀ (ds : List PyData) (vs : List V), TpAll H vs ds → DpAll K H vs ds
  | _, _, .nil => .nil
  | d :: ds, _, .cons h t => .cons (Tp.dp d _ h) (TpAll.dp ds _ t)
end
mutual
theorem Tp.pd {H : Hp} : ∀ (d : PyData) (v : V), Tp H v d → pd d = true
  | _, _, .int i => rfl
  | _, _, .str x => rfl
  | .tuple ds, _, .tup h t => by
    rw [N97.pd]
    exact TpAll.pd ds _ t
theorem TpAll.pd {H : Hp} : ∀ (ds : List PyData) (vs : List V), TpAll H vs ds → pdAll ds = true
  | _, _, .nil => by simp [pdAll]
  | d :: ds, _, .cons h t => by simp only [pdAll, Tp.pd d _ h, TpAll.pd ds _ t, Bool.and_self]
end
/-- what is frozen stays -/
def FS (H H' : Hp) : Prop := ∀ b o u, H b = some (.frz o u) → H' b = some (.frz o u)
theorem FS.refl (H : Hp) : FS H H := fun _ _ _ h => h
theorem FS.trans {H H1 H2 : Hp} (a : FS H H1) (b : FS H1 H2) : FS H H2 := fun c o u h => b c o u (a c o u h)
theorem _root_.L2.Same.fs {H H' : Hp} (h : Same H H') : FS H H' := fun b o u e => h b _ e
theorem TF.mono {H H' : Hp} {a : Addr} {xs : List V} (f : FS H H') (h : TF H a xs) : TF H' a xs := let ⟨o, e, n⟩ := h; ⟨o, f _ _ _ e, n⟩
mutual
theorem Tp.mono' {H H' : Hp} (f : FS H H') : ∀ (d : PyData) (v : V), Tp H v d → Tp H' v d
  | _, _, .int i => .int i
  | _, _, .str x => .str x
  | .tuple ds, _, .tup h t => .tup (h.mono f) (TpAll.mono' f ds _ t)
theorem TpAll.mono' {H H' : Hp} (f : FS H H') : ∀ (ds : List PyData) (vs : List V), TpAll H vs ds → TpAll H' vs ds
  | _, _, .nil => .nil
  | d :: ds, _, .cons h t => .cons (Tp.mono' f d _ h) (TpAll.mono' f ds _ t)
end
theorem Tp.mono {H H' : Hp} {d : PyData} {v : V} (h : Tp H v d) (f : FS H H') : Tp H' v d := Tp.mono' f d v h
theorem TpAll.mono {H H' : Hp} {ds : List PyData} {vs : List V} (h : TpAll H vs ds) (f : FS H H') : TpAll H' vs ds := TpAll.mono' f ds vs h
/-- a new object; a list or dict that is written -/
theorem fs_new {H : Hp} {p : Addr} {o : HO} (h : H p = none) : FS H (upd H p o) := fun b o u e => by rw [upd_ne (ne_of_none e h)]; exact e
theorem fs_lst {H : Hp} {p : Addr} {o : HO} {xs : List V} (h : H p = some (.lst xs)) : FS H (upd H p o) := fun b o u e => by rw [upd_ne (ne_of e h (by intro z; cases z))]; exact e
theorem fs_dK {H : Hp} {p : Addr} {o : HO} {kvs : List (Key × V)} (h : H p = some (.dK kvs)) : FS H (upd H p o) := fun b o u e => by rw [upd_ne (ne_of e h (by intro z; cases z))]; exact e
theorem same_new {H : Hp} {p : Addr} (h : H p = none) (o : HO) : Same H (upd H p o) := fun b u q => by rw [upd_ne (ne_of_none q h)]; exact q

theorem Tp.tupI {H : Hp} {v : V} {ds : List PyData} (h : Tp H v (.tuple ds)) : ∃ a xs, v = .ref a ∧ TF H a xs ∧ TpAll H xs ds := by
  cases h with
  | tup h t => exact ⟨_, _, rfl, h, t⟩
theorem Tp.intI {H : Hp} {v : V} {i : Int} (h : Tp H v (.int i)) : v = .int i := by cases h; rfl
theorem Tp.strI {H : Hp} {v : V} {x : Str} (h : Tp H v (.str x)) : v = .str x := by cases h; rfl
theorem TpAll.len {H : Hp} : ∀ {vs : List V} {ds : List PyData}, TpAll H vs ds → vs.length = ds.length
  | _, _, .nil => rfl
  | _, _, .cons _ t => by rw [List.length_cons, List.length_cons, t.len]
theorem TpAll.get {H : Hp} : ∀ {vs : List V} {ds : List PyData} {i : Nat} {v : V}, TpAll H vs ds → vs[i]? = some v → ∃ d, ds[i]? = some d ∧ Tp H v d
  | _, _, i, _, .nil, h => by simp at h
  | _, _, 0, v, .cons h t, e => by simp at e; subst e; exact ⟨_, rfl, h⟩
  | _, _, i + 1, v, .cons h t, e => by
    obtain ⟨d, e1, e2⟩ := t.get (i := i) (v := v) (by simpa using e)
    exact ⟨d, by simpa using e1, e2⟩
theorem TpAll.at {H : Hp} {vs : List V} {ds : List PyData} {i : Nat} {d : PyData} (t : TpAll H vs ds) (e : ds[i]? = some d) : ∃ v, vs[i]? = some v ∧ Tp H v d := by
  have hi : i < vs.length := by rw [t.len]; exact (List.getElem?_eq_some_iff.mp e).1
  obtain ⟨d', e1, e2⟩ := t.get (List.getElem?_eq_getElem hi)
  rw [e] at e1
  cases e1
  exact ⟨_, List.getElem?_eq_getElem hi, e2⟩
theorem TpAll.app {H : Hp} : ∀ {vs ws : List V} {ds es : List PyData}, TpAll H vs ds → TpAll H ws es → TpAll H (vs ++ ws) (ds ++ es)
  | _, _, _, _, .nil, s => s
  | _, _, _, _, .cons h t, s => .cons h (t.app s)
theorem TpAll.snoc {H : Hp} {vs : List V} {ds : List PyData} {v : V} {d : PyData} (t : TpAll H vs ds) (h : Tp H v d) : TpAll H (vs ++ [v]) (ds ++ [d]) := t.app (.cons h .nil)
theorem TpAll.i0 {H : Hp} {vs : List V} (t : TpAll H vs []) : vs = [] := by cases t; rfl
theorem TpAll.i1 {H : Hp} {vs : List V} {d : PyData} (t : TpAll H vs [d]) : ∃ v, vs = [v] ∧ Tp H v d := by
  cases t with
  | cons h t => cases t; exact ⟨_, rfl, h⟩
theorem TpAll.i2 {H : Hp} {vs : List V} {d e : PyData} (t : TpAll H vs [d, e]) : ∃ v w, vs = [v, w] ∧ Tp H v d ∧ Tp H w e := by
  cases t with
  | cons h t =>
    obtain ⟨w, rfl, h2⟩ := t.i1
    exact ⟨_, _, rfl, h, h2⟩
theorem TpAll.i3 {H : Hp} {vs : List V} {d e f : PyData} (t : TpAll H vs [d, e, f]) : ∃ v w x, vs = [v, w, x] ∧ Tp H v d ∧ Tp H w e ∧ Tp H x f := by
  cases t with
  | cons h t =>
    obtain ⟨w, x, rfl, h2, h3⟩ := t.i2
    exact ⟨_, _, _, rfl, h, h2, h3⟩
theorem TpAll.i4 {H : Hp} {vs : List V} {d e f g : PyData} (t : TpAll H vs [d, e, f, g]) : ∃ v w x y, vs = [v, w, x, y] ∧ Tp H v d ∧ Tp H w e ∧ Tp H x f ∧ Tp H y g := by
  cases t with
  | cons h t =>
    obtain ⟨w, x, y, rfl, h2, h3, h4⟩ := t.i3
    exact ⟨_, _, _, _, rfl, h, h2, h3, h4⟩
theorem Tp.i1 {H : Hp} {v : V} {d : PyData} (h : Tp H v (.tuple [d])) : ∃ a x, v = .ref a ∧ TF H a [x] ∧ Tp H x d := by
  obtain ⟨a, xs, rfl, f, t⟩ := h.tupI
  obtain ⟨x, rfl, h1⟩ := t.i1
  exact ⟨_, _, rfl, f, h1⟩
theorem Tp.i2 {H : Hp} {v : V} {d e : PyData} (h : Tp H v (.tuple [d, e])) : ∃ a x y, v = .ref a ∧ TF H a [x, y] ∧ Tp H x d ∧ Tp H y e := by
  obtain ⟨a, xs, rfl, f, t⟩ := h.tupI
  obtain ⟨x, y, rfl, h1, h2⟩ := t.i2
  exact ⟨_, _, _, rfl, f, h1, h2⟩
theorem Tp.i3 {H : Hp} {v : V} {d e g : PyData} (h : Tp H v (.tuple [d, e, g])) : ∃ a x y z, v = .ref a ∧ TF H a [x, y, z] ∧ Tp H x d ∧ Tp H y e ∧ Tp H z g := by
  obtain ⟨a, xs, rfl, f, t⟩ := h.tupI
  obtain ⟨x, y, z, rfl, h1, h2, h3⟩ := t.i3
  exact ⟨_, _, _, _, rfl, f, h1, h2, h3⟩
theorem Tp.i4 {H : Hp} {v : V} {d e g k : PyData} (h : Tp H v (.tuple [d, e, g, k])) : ∃ a x y z u, v = .ref a ∧ TF H a [x, y, z, u] ∧ Tp H x d ∧ Tp H y e ∧ Tp H z g ∧ Tp H u k := by
  obtain ⟨a, xs, rfl, f, t⟩ := h.tupI
  obtain ⟨x, y, z, u, rfl, h1, h2, h3, h4⟩ := t.i4
  exact ⟨_, _, _, _, _, rfl, f, h1, h2, h3, h4⟩
/-- a new tuple -/
theorem Tp.new {H : Hp} {p : Addr} {o : Obj} {xs : List V} {ds : List PyData} (hp : H p = none) (n : NoD o) (t : TpAll H xs ds) : Tp (upd H p (.frz o (.tup xs))) (.ref p) (.tuple ds) := .tup (.new n) (t.mono (fs_new hp))
/-- a list of data -/
def LT (H : Hp) (a : Addr) (ds : List PyData) : Prop := ∃ xs, H a = some (.lst xs) ∧ TpAll H xs ds

/-! ### == of such data -/
def rEqP (K : PySem.W.Frag) : R2 := fun x y H Q => ∃ d e, Tp H x d ∧ Tp H y e ∧ d.depth ≤ 100 ∧ ∀ b, (b = true ↔ d = e) → Q (.bl b) H
def rNeP (K : PySem.W.Frag) : R2 := fun x y H Q => ∃ d e, Tp H x d ∧ Tp H y e ∧ d.depth ≤ 100 ∧ ∀ b, (b = true ↔ d ≠ e) → Q (.bl b) H
theorem op_eqP {X : Cx} (hu : X.A.units + 200 < cLine) : OpR X (compareOp .Eq) (rEqP X.K) := by
  intro pins s σ H x y v u Q I rx ry h
  obtain ⟨d, e, hd, he, dd, q⟩ := h
  obtain ⟨as, r1⟩ := Dp.reads I d x v hd.dp rx
  obtain ⟨bs, r2⟩ := Dp.reads I e y u he.dp ry
  refine SeqAt.eq_plain r1 r2 (pd_plain d hd.pd) (pd_plain e he.pd) ?_ ⟨.bl _, H, I, rfl, q _ (pd_iff hd.pd he.pd)⟩
  have := Nat.min_le_left d.depth e.depth
  omega
theorem op_neP {X : Cx} (hu : X.A.units + 200 < cLine) : OpR X (compareOp .NotEq) (rNeP X.K) := by
  intro pins s σ H x y v u Q I rx ry h
  obtain ⟨d, e, hd, he, dd, q⟩ := h
  obtain ⟨as, r1⟩ := Dp.reads I d x v hd.dp rx
  obtain ⟨bs, r2⟩ := Dp.reads I e y u he.dp ry
  refine SeqAt.ne_plain r1 r2 (pd_plain d hd.pd) (pd_plain e he.pd) ?_ ⟨.bl _, H, I, rfl, q _ ?_⟩
  · have := Nat.min_le_left d.depth e.depth
    omega
  · have := pd_iff hd.pd he.pd
    rw [ne_eq, ← this]
    simp

theorem iteTe {b : Bool} {A B : Prop} (e : b = true) (h : A) : if b = true then A else B := by rw [if_pos e]; exact h
theorem iteFe {b : Bool} {A B : Prop} (e : b = false) (h : B) : if b = true then A else B := by rw [e]; exact iteF h
/-! ### rules whose reading names the written part: told for a K that is known (within a comprehension's block) -/
section
variable {X : Cx} (K : PySem.W.Frag)
theorem ix_tupK (h : X.K = K := by rfl) : IxR X (rIxT K) := by subst h; exact ix_tup
theorem ix_listK (h : X.K = K := by rfl) : IxR X (rIxL K) := by subst h; exact ix_list
theorem op_catK (h : X.K = K := by rfl) : OpR X (binaryOp .Add) (rCatA K) := by subst h; exact op_catA
theorem op_eqPK (hu : X.A.units + 200 < cLine) (h : X.K = K := by rfl) : OpR X (compareOp .Eq) (rEqP K) := by subst h; exact op_eqP hu
theorem op_neNilK (hu : X.A.units < cLine) (h : X.K = K := by rfl) : OpR X (compareOp .NotEq) (rEqNil K true) := by subst h; exact op_neNil hu
theorem op_eqNilK (hu : X.A.units < cLine) (h : X.K = K := by rfl) : OpR X (compareOp .Eq) (rEqNil K false) := by subst h; exact op_eqNil hu
theorem op_inK (h : X.K = K := by rfl) : OpR X (compareOp .In) (rIn K false) := by subst h; exact op_in_seq
end
end N97

/-! KaW1 -/
set_option maxRecDepth 100000
set_option maxHeartbeats 4000000
namespace N97
open PySem PySem.Spec PyProof.Rows L2

abbrev sCell : Stmt := topS 8
abbrev sSeed : Stmt := topS 9
abbrev sDraw : Stmt := topS 10
abbrev nCell : List Str := ["script", "k"]
abbrev nSeed : List Str := ["cell", "number"]
abbrev nDraw : List Str := ["seed", "most", "found", "number"]
theorem scCell : FnScope nCell ["script", "k"] (defScope sCell) := ⟨rfl, rfl, rfl, by decide +kernel, rfl, by decide +kernel, by decide +kernel⟩
theorem scSeed : FnScope nSeed ["cell"] (defScope sSeed) := ⟨rfl, rfl, rfl, by decide +kernel, rfl, by decide +kernel, by decide +kernel⟩
theorem scDraw : FnScope nDraw ["seed", "most"] (defScope sDraw) := ⟨rfl, rfl, rfl, by decide +kernel, rfl, by decide +kernel, by decide +kernel⟩

/-- a seed stands at a -/
def Sd (H : Hp) (a : Addr) : Prop := ∃ n f c m : Int, H a = some (.lst [.int n, .int f, .int c, .int m])
/-- all but the seed stands as it was -/
def SX (a : Addr) (H H' : Hp) : Prop := (∀ b o, b ≠ a → H b = some o → H' b = some o) ∧ Sd H' a
theorem SX.trans {a : Addr} {H H1 H2 : Hp} (x : SX a H H1) (y : SX a H1 H2) : SX a H H2 := ⟨fun b o n e => y.1 b o n (x.1 b o n e), y.2⟩
theorem SX.refl {a : Addr} {H : Hp} (h : Sd H a) : SX a H H := ⟨fun _ _ _ e => e, h⟩
theorem SX.fs {a : Addr} {H H1 : Hp} (s : Sd H a) (x : SX a H H1) : FS H H1 := fun b o u e => x.1 b _ (by
  obtain ⟨n, f, c, m, h⟩ := s
  exact ne_of e h (by intro z; cases z)) e
theorem Sd.same {a : Addr} {H H1 : Hp} (s : Sd H a) (x : Same H H1) : Sd H1 a := let ⟨n, f, c, m, h⟩ := s; ⟨n, f, c, m, x _ _ h⟩
theorem SX.same {a : Addr} {H H1 H2 : Hp} (x : SX a H H1) (y : Same H1 H2) : SX a H H2 := ⟨fun b o n e => y b o (x.1 b o n e), x.2.same y⟩
theorem SX.ofSame {a : Addr} {H H1 : Hp} (s : Sd H a) (y : Same H H1) : SX a H H1 := ⟨fun b o _ e => y b o e, s.same y⟩
theorem Sd.ne {H : Hp} {a p : Addr} (s : Sd H a) (h : H p = none) : a ≠ p := let ⟨_, _, _, _, e⟩ := s; ne_of_none e h

def spCell (K : PySem.W.Frag) : Sp := fun vs H Q _ => ∃ (a : Addr) (ns : List Int) (k : Int), vs = [.ref a, .int k] ∧ SqL K H a (ns.map V.int) ∧ 0 ≤ k ∧ ∀ c, Q (.int c) H
def spSeed : Sp := fun vs H Q _ => ∃ c : Int, vs = [.int c] ∧ ∀ p H', Same H H' → H p = none → Sd H' p → Q (.ref p) H'
def spDraw : Sp := fun vs H Q _ => ∃ (a : Addr) (m : Int), vs = [.ref a, .int m] ∧ Sd H a ∧ 0 < m ∧ m < 1073741824 ∧ ∀ r H', 0 ≤ r → r < m → SX a H H' → Q (.int r) H'
section
variable {P : Program} {w : World} {K : PySem.W.Frag} {mg : Str → Option Value} {base : Heap}
theorem ok_cell {f : Addr} {fd : FuncData} {k : Nat} (F : Fun K "_law_cell_at" "_law_cell_at" sCell f fd) (ml : mg "len" = none) : FnOk P w K mg base CX0 (k + 1) f fd ["script", "k"] (spCell K) := by
  refine F.ok scCell (fun vs H Q E h => ?_) (fun cdv A outer s H vs Q E hr h => ?_)
  · obtain ⟨a, ns, k, rfl, _⟩ := h
    rfl
  obtain ⟨a, ns, k, rfl, hS, hk, q⟩ := h
  refine ⟨_, pss_cons (ps_if (pt_cmpR op_lt (pv 1) (pe_callB call_len_seq (by rfl) ml PySem.boot_len (pa_cons (pv 0) pa_nil)) (nomark _)) (pss_one (ps_ret (pe_ix ix_list (pv 0) (pv 1) (fun _ _ => rfl)))) pss_nil)
    (pss_one (ps_ret pe_int)), ?_⟩
  refine ⟨_, rfl, _, rfl, a, _, rfl, .inl hS, _, _, rfl, rfl, _, rfl, ?_⟩
  refine ite2 (fun c => ?_) (fun c => ?_)
  · have c' : k < (((ns.map V.int).length : Nat) : Int) := of_decide_eq_true c
    rw [List.length_map] at c'
    have hj : k.toNat < ns.length := by omega
    obtain ⟨j, rfl⟩ : ∃ j : Nat, k = (j : Int) := ⟨k.toNat, by omega⟩
    have hj' : j < ns.length := by omega
    exact ⟨_, rfl, _, rfl, a, _, _, .int ns[j], rfl, rfl, hS, atI_nat (by rw [List.getElem?_map, List.getElem?_eq_getElem hj']; rfl), q _⟩
  · exact q _
theorem ok_seed {f : Addr} {fd : FuncData} {k : Nat} (F : Fun K "_law_seed" "_law_seed" sSeed f fd) (mm : mg "max" = none) (mi : mg "int" = none) : FnOk P w K mg base CX0 (k + 1) f fd ["cell"] spSeed := by
  refine F.ok scSeed (fun vs H Q E h => ?_) (fun cdv A outer s H vs Q E hr h => ?_)
  · obtain ⟨c, rfl, _⟩ := h
    rfl
  obtain ⟨c, rfl, q⟩ := h
  refine ⟨_, pss_cons (ps_set (i := 1) scSeed.nd rfl (.inl rfl) (pe_callB (call_max2 rfl) (by rfl) mm (by decide +kernel) (pa_cons (pv 0) (pa_cons (pe_op op_sub pe_int (pv 0)) pa_nil))))
    (pss_one (ps_ret (pe_lst (pa_cons (pv 1) (pa_cons (pe_callTy call_int1 (by rfl) mi (by decide +kernel) (pa_cons (pe_cmpR op_ge (pv 1) (pe_op op_pow pe_int pe_int) (nomark _)) pa_nil)) (pa_cons pe_int (pa_cons (pe_op op_mod (pv 0) pe_int) pa_nil))))))), ?_⟩
  refine ⟨_, rfl, _, rfl, _, _, rfl, rfl, _, _, rfl, _, rfl, _, rfl, _, _, rfl, rfl, ⟨by decide, by decide, by decide⟩, _, _, rfl, rfl, .inr ⟨_, rfl, ?_⟩⟩
  refine ⟨_, rfl, _, _, rfl, rfl, (by show (0 : Int) < 1999999943; decide), ⟨by show 4 ≤ sizeLine; decide, fun p hp => ?_⟩⟩
  exact q p _ (same_new hp _) hp ⟨_, _, _, _, upd_same⟩
theorem ok_draw {f : Addr} {fd : FuncData} {k : Nat} (F : Fun K "_law_draw" "_law_draw" sDraw f fd) : FnOk P w K mg base CX0 (k + 1) f fd ["seed", "most"] spDraw := by
  refine F.ok scDraw (fun vs H Q E h => ?_) (fun cdv A outer s H vs Q E hr h => ?_)
  · obtain ⟨a, m, rfl, _⟩ := h
    rfl
  obtain ⟨a, m, rfl, ⟨n, fl, c, z, hA⟩, h0, h1, q⟩ := h
  refine ⟨_, pss_cons (ps_asg (pe_op op_add (pe_ix ix_list (pv 0) pe_int (fun _ _ => rfl)) pe_int) (pg_sub (pv 0) pe_int set_list))
    (pss_cons (ps_if (PW.pt (pw_and (pt_cmpR op_eq (pe_ix ix_list (pv 0) pe_int (fun _ _ => rfl)) pe_int (nomark _)) (pw_and1 (pt_cmpR op_gt (pe_ix ix_list (pv 0) pe_int (fun _ _ => rfl)) pe_int (nomark _)))))
        (pss_cons (ps_set (i := 2) scDraw.nd rfl (.inl rfl) (pe_op op_mod (pe_ix ix_list (pv 0) pe_int (fun _ _ => rfl)) (pv 1)))
        (pss_cons (ps_asg (pe_op op_fdiv (pe_ix ix_list (pv 0) pe_int (fun _ _ => rfl)) (pv 1)) (pg_sub (pv 0) pe_int set_list))
        (pss_one (ps_ret (pv 2))))) pss_nil)
    (pss_cons (ps_set (i := 3) scDraw.nd rfl (.inl rfl) (pe_op op_mod (pe_op op_mul (pe_op op_add (pe_op op_add (pe_ix ix_list (pv 0) pe_int (fun _ _ => rfl)) (pe_op op_mul pe_int (pe_ix ix_list (pv 0) pe_int (fun _ _ => rfl)))) pe_int) pe_int) pe_int))
    (pss_cons (ps_set (i := 3) scDraw.nd rfl (.inl rfl) (pe_op op_mod (pe_op op_mul (pe_op op_mod (pe_op op_mul (pv 3) (pv 3)) pe_int) pe_int) pe_int))
    (pss_one (ps_ret (pe_op op_mod (pe_op op_fdiv (pv 3) pe_int) (pv 1))))))), ?_⟩
  -- seed[2] = seed[2] + 1
  refine ⟨_, rfl, a, _, 2, .int c, rfl, rfl, SqL.of hA, rfl, _, _, rfl, rfl, ?_⟩
  refine ⟨_, rfl, a, _, 2, 2, rfl, rfl, hA, rfl, ?_⟩
  have hA1 : (upd H a (.lst ([V.int n, .int fl, .int c, .int z].set 2 (.int (c + 1))))) a = some (.lst [.int n, .int fl, .int (c + 1), .int z]) := upd_same
  have keep : ∀ (o : HO) b u, b ≠ a → H b = some u → (upd H a o) b = some u := fun o b u hb e => by rw [upd_ne hb]; exact e
  refine ⟨_, rfl, a, _, 1, .int fl, rfl, rfl, SqL.of hA1, rfl, rfl, _, rfl, ?_⟩
  refine ite2 (fun c1 => ?_) (fun c1 => ?_)
  · refine ⟨_, rfl, a, _, 0, .int n, rfl, rfl, SqL.of hA1, rfl, _, _, rfl, rfl, _, rfl, ?_⟩
    refine ite2 (fun c2 => ?_) (fun c2 => ?_)
    · refine ⟨_, rfl, a, _, 0, .int n, rfl, rfl, SqL.of hA1, rfl, _, rfl, _, _, rfl, rfl, h0, ?_⟩
      refine ⟨_, rfl, a, _, 0, .int n, rfl, rfl, SqL.of hA1, rfl, _, rfl, _, _, rfl, rfl, ⟨h0, h1⟩, ?_⟩
      refine ⟨_, rfl, a, _, 0, 0, rfl, rfl, hA1, rfl, ?_⟩
      refine ⟨_, rfl, q _ _ (Int.emod_nonneg _ (by omega)) (Int.emod_lt_of_pos _ h0) ⟨fun b o hb e => ?_, ⟨_, _, _, _, upd_same⟩⟩⟩
      rw [upd_ne hb, upd_ne hb]
      exact e
    · refine ⟨_, rfl, a, _, 3, .int z, rfl, rfl, SqL.of hA1, rfl, _, rfl, a, _, 2, .int (c + 1), rfl, rfl, SqL.of hA1, rfl, _, _, rfl, rfl, .inl ⟨by decide, by decide⟩, _, _, rfl, rfl, _, _, rfl, rfl, _, _, rfl, rfl, .inr ⟨by decide, by decide⟩, _, _, rfl, rfl, (by show (0 : Int) < 2147483647; decide), ?_⟩
      have b0 := Int.emod_nonneg ((z + 7919 * (c + 1) + 1) * 48271) (show (2147483647 : Int) ≠ 0 by decide)
      have b1 := Int.emod_lt_of_pos ((z + 7919 * (c + 1) + 1) * 48271) (show (0 : Int) < 2147483647 by decide)
      generalize (z + 7919 * (c + 1) + 1) * 48271 % 2147483647 = g at b0 b1 ⊢
      refine ⟨_, rfl, _, rfl, _, _, rfl, rfl, .inl ⟨by omega, by omega⟩, _, _, rfl, rfl, (by show (0 : Int) < 2147483629; decide), _, _, rfl, rfl, .inr ⟨by decide, by decide⟩, _, _, rfl, rfl, (by show (0 : Int) < 2147483399; decide), ?_⟩
      refine ⟨_, rfl, _, _, rfl, rfl, ⟨by decide, by decide⟩, _, rfl, _, _, rfl, rfl, h0, ?_⟩
      exact q _ _ (Int.emod_nonneg _ (by omega)) (Int.emod_lt_of_pos _ h0) ⟨keep _, ⟨_, _, _, _, upd_same⟩⟩
  · refine iteF ?_
    refine ⟨_, rfl, a, _, 3, .int z, rfl, rfl, SqL.of hA1, rfl, _, rfl, a, _, 2, .int (c + 1), rfl, rfl, SqL.of hA1, rfl, _, _, rfl, rfl, .inl ⟨by decide, by decide⟩, _, _, rfl, rfl, _, _, rfl, rfl, _, _, rfl, rfl, .inr ⟨by decide, by decide⟩, _, _, rfl, rfl, (by show (0 : Int) < 2147483647; decide), ?_⟩
    have b0 := Int.emod_nonneg ((z + 7919 * (c + 1) + 1) * 48271) (show (2147483647 : Int) ≠ 0 by decide)
    have b1 := Int.emod_lt_of_pos ((z + 7919 * (c + 1) + 1) * 48271) (show (0 : Int) < 2147483647 by decide)
    generalize (z + 7919 * (c + 1) + 1) * 48271 % 2147483647 = g at b0 b1 ⊢
    refine ⟨_, rfl, _, rfl, _, _, rfl, rfl, .inl ⟨by omega, by omega⟩, _, _, rfl, rfl, (by show (0 : Int) < 2147483629; decide), _, _, rfl, rfl, .inr ⟨by decide, by decide⟩, _, _, rfl, rfl, (by show (0 : Int) < 2147483399; decide), ?_⟩
    refine ⟨_, rfl, _, _, rfl, rfl, ⟨by decide, by decide⟩, _, rfl, _, _, rfl, rfl, h0, ?_⟩
    exact q _ _ (Int.emod_nonneg _ (by omega)) (Int.emod_lt_of_pos _ h0) ⟨keep _, ⟨_, _, _, _, upd_same⟩⟩
end
end N97

/-! KaP2 -/
set_option maxRecDepth 100000
namespace N97
open PySem PySem.W PyProof.Rows

/-! ### depth -/
theorem depth_tup (xs : List PyData) : (PyData.tuple xs).depth = PyData.depthAll xs + 1 := by rw [PyData.depth]
theorem depth_int (i : Int) : (PyData.int i).depth = 0 := by rw [PyData.depth]
theorem depth_str (i : Str) : (PyData.str i).depth = 0 := by rw [PyData.depth]
theorem depthAll_nil : PyData.depthAll [] = 0 := by rw [PyData.depthAll]
theorem depthAll_cons (x : PyData) (xs : List PyData) : PyData.depthAll (x :: xs) = max x.depth (PyData.depthAll xs) := by rw [PyData.depthAll]
theorem depthAll_le {n : Nat} : ∀ {xs : List PyData}, (∀ x ∈ xs, x.depth ≤ n) → PyData.depthAll xs ≤ n
  | [], _ => by rw [depthAll_nil]; exact Nat.zero_le _
  | x :: xs, h => by
    rw [depthAll_cons]
    have h1 := h x (List.mem_cons_self ..)
    have h2 := depthAll_le fun y hy => h y (List.mem_cons_of_mem _ hy)
    omega
theorem enc_depth : ∀ (k : Kd) (v : Val), HasK k v → v.enc.depth ≤ 3 * k.rank ∧ v.key.depth ≤ 3 * k.rank := by
  have num : ∀ n, (Val.num n).enc.depth ≤ 1 ∧ (Val.num n).key.depth ≤ 1 := fun n => by simp [Val.enc, Val.key, PyData.depth, PyData.depthAll]
  have word : ∀ n, (Val.word n).enc.depth ≤ 1 ∧ (Val.word n).key.depth ≤ 1 := fun n => by simp [Val.enc, Val.key, PyData.depth, PyData.depthAll]
  have bag : ∀ (l : List (Val × Int)) (n : Nat), (∀ p ∈ l, p.1.enc.depth ≤ n ∧ p.1.key.depth ≤ n) → (Val.bag (.ofR l)).enc.depth ≤ n + 3 ∧ (Val.bag (.ofR l)).key.depth ≤ n + 3 := fun l n h => by
    have a1 : PyData.depthAll (l.map fun p => PyData.tuple [p.1.enc, .int p.2]) ≤ n + 1 := depthAll_le fun x hx => by
      obtain ⟨p, hp, rfl⟩ := List.mem_map.mp hx
      have := (h p hp).1
      rw [depth_tup, depthAll_cons, depthAll_cons, depthAll_nil, depth_int]
      omega
    have a2 : PyData.depthAll (l.map fun p => PyData.tuple [p.1.key, .int p.2]) ≤ n + 1 := depthAll_le fun x hx => by
      obtain ⟨p, hp, rfl⟩ := List.mem_map.mp hx
      have := (h p hp).2
      rw [depth_tup, depthAll_cons, depthAll_cons, depthAll_nil, depth_int]
      omega
    constructor
    · rw [Val.enc, Val.enc_ofR, depth_tup, depthAll_cons, depthAll_cons, depthAll_nil, depth_tup, depth_str]
      omega
    · rw [Val.key, Val.key_ofR, depth_tup, depthAll_cons, depthAll_cons, depthAll_nil, depth_tup, depth_int]
      omega
  intro k
  induction k with
  | num => rintro v ⟨n, rfl⟩; have := num n; simp only [Kd.rank]; omega
  | word => rintro v ⟨n, rfl⟩; have := word n; simp only [Kd.rank]; omega
  | level =>
    rintro v ⟨s, n, rfl⟩
    simp [Val.enc, Val.key, Val.ofF, items, PyData.depth, PyData.depthAll, Kd.rank]
  | deep =>
    rintro v ⟨n, s, z, ts, _, rfl⟩
    have b := bag (ts.map fun p => (.num p.1, p.2)) 1 fun p hp => by
      obtain ⟨q, _, rfl⟩ := List.mem_map.mp hp
      exact num _
    have e1 : (Val.num n).enc.depth = 1 := by simp [Val.enc, PyData.depth, PyData.depthAll]
    have e2 : ∀ x, (Val.word x).enc.depth = 1 := fun x => by simp [Val.enc, PyData.depth, PyData.depthAll]
    have e3 : (Val.num n).key.depth = 1 := by simp [Val.key, PyData.depth, PyData.depthAll]
    have e4 : ∀ x, (Val.word x).key.depth = 1 := fun x => by simp [Val.key, PyData.depth, PyData.depthAll]
    rw [Val.enc, Val.key, Val.enc_ofF, Val.key_ofF]
    simp only [List.map_cons, List.map_nil, depth_tup, depthAll_cons, depthAll_nil, depth_str, depth_int, e1, e2, e3, e4, Kd.rank]
    omega
  | bag k ih =>
    rintro v ⟨l, rfl, _, h⟩
    have b := bag l (3 * k.rank) fun p hp => ih p.1 (h p hp)
    have : (Kd.bag k).rank = k.rank + 1 := rfl
    omega
theorem sdat_depth {k : Kd} {p : Val × Int} (h : HasK k p.1) : (sdat p).depth ≤ 3 * k.rank + 1 := by
  have := enc_depth k p.1 h
  rw [sdat, depth_tup, depthAll_cons, depthAll_cons, depthAll_cons, depthAll_nil, depth_int]
  omega

/-! ### data of one kind can be compared -/
theorem alike_tup (xs ys : List PyData) : alike (.tuple xs) (.tuple ys) = alikeAll xs ys := by rw [alike]
theorem alike_int (i j : Int) : alike (.int i) (.int j) = true := by rw [alike]
theorem alike_str (i j : Str) : alike (.str i) (.str j) = true := by rw [alike]
theorem alikeAll_cons (x y : PyData) (xs ys : List PyData) : alikeAll (x :: xs) (y :: ys) = (alike x y && alikeAll xs ys) := by rw [alikeAll]
theorem alikeAll_nil (ys : List PyData) : alikeAll [] ys = true := by rw [alikeAll]
theorem alikeAll_nil' (ys : List PyData) : alikeAll ys [] = true := by cases ys <;> rw [alikeAll]
theorem alikeAll_of : ∀ {xs ys : List PyData}, (∀ x ∈ xs, ∀ y ∈ ys, alike x y = true) → alikeAll xs ys = true
  | [], ys, _ => alikeAll_nil ys
  | x :: xs, [], _ => alikeAll_nil' _
  | x :: xs, y :: ys, h => by
    rw [alikeAll_cons, h x (List.mem_cons_self ..) y (List.mem_cons_self ..), alikeAll_of fun a ha b hb => h a (List.mem_cons_of_mem _ ha) b (List.mem_cons_of_mem _ hb)]
    rfl
theorem kind_alike : ∀ (k : Kd) (v w : Val), HasK k v → HasK k w → alike v.enc w.enc = true ∧ alike v.key w.key = true := by
  have num : ∀ n m, alike (Val.num n).enc (Val.num m).enc = true ∧ alike (Val.num n).key (Val.num m).key = true := fun n m => by
    simp only [Val.enc, Val.key, alike_tup, alikeAll_cons, alike_int, alike_str, alikeAll_nil, Bool.and_self, and_self]
  have word : ∀ n m, alike (Val.word n).enc (Val.word m).enc = true ∧ alike (Val.word n).key (Val.word m).key = true := fun n m => by
    simp only [Val.enc, Val.key, alike_tup, alikeAll_cons, alike_int, alike_str, alikeAll_nil, Bool.and_self, and_self]
  have bag : ∀ (l l' : List (Val × Int)), (∀ p ∈ l, ∀ q ∈ l', alike p.1.enc q.1.enc = true ∧ alike p.1.key q.1.key = true) → alike (Val.bag (.ofR l)).enc (Val.bag (.ofR l')).enc = true ∧ alike (Val.bag (.ofR l)).key (Val.bag (.ofR l')).key = true := fun l l' h => by
    have a1 : alikeAll (l.map fun p => PyData.tuple [p.1.enc, .int p.2]) (l'.map fun p => PyData.tuple [p.1.enc, .int p.2]) = true := alikeAll_of fun x hx y hy => by
      obtain ⟨p, hp, rfl⟩ := List.mem_map.mp hx
      obtain ⟨q, hq, rfl⟩ := List.mem_map.mp hy
      rw [alike_tup, alikeAll_cons, alikeAll_cons, (h p hp q hq).1, alike_int, alikeAll_nil]
      rfl
    have a2 : alikeAll (l.map fun p => PyData.tuple [p.1.key, .int p.2]) (l'.map fun p => PyData.tuple [p.1.key, .int p.2]) = true := alikeAll_of fun x hx y hy => by
      obtain ⟨p, hp, rfl⟩ := List.mem_map.mp hx
      obtain ⟨q, hq, rfl⟩ := List.mem_map.mp hy
      rw [alike_tup, alikeAll_cons, alikeAll_cons, (h p hp q hq).2, alike_int, alikeAll_nil]
      rfl
    rw [Val.enc, Val.key, Val.enc, Val.key, Val.enc_ofR, Val.key_ofR, Val.enc_ofR, Val.key_ofR]
    simp only [alike_tup, alikeAll_cons, alike_int, alike_str, alikeAll_nil, a1, a2, Bool.and_self, and_self]
  intro k
  induction k with
  | num => rintro v w ⟨n, rfl⟩ ⟨m, rfl⟩; exact num n m
  | word => rintro v w ⟨n, rfl⟩ ⟨m, rfl⟩; exact word n m
  | level =>
    rintro v w ⟨s, n, rfl⟩ ⟨s', n', rfl⟩
    rw [Val.enc, Val.key, Val.enc, Val.key, Val.enc_ofF, Val.key_ofF, Val.enc_ofF, Val.key_ofF]
    simp only [List.map_cons, List.map_nil, alike_tup, alikeAll_cons, alike_int, alike_str, alikeAll_nil, (num n n').1, (num n n').2, (word s s').1, (word s s').2, Bool.and_self, and_self]
  | deep =>
    rintro v w ⟨n, s, z, ts, _, rfl⟩ ⟨n', s', z', ts', _, rfl⟩
    have b := bag (ts.map fun p => (.num p.1, p.2)) (ts'.map fun p => (.num p.1, p.2)) fun p hp q hq => by
      obtain ⟨p', _, rfl⟩ := List.mem_map.mp hp
      obtain ⟨q', _, rfl⟩ := List.mem_map.mp hq
      exact num _ _
    rw [Val.enc, Val.key, Val.enc, Val.key, Val.enc_ofF, Val.key_ofF, Val.enc_ofF, Val.key_ofF]
    simp only [List.map_cons, List.map_nil, alike_tup, alikeAll_cons, alike_int, alike_str, alikeAll_nil, (num n n').1, (num n n').2, (word s s').1, (word s s').2, (word z z').1, (word z z').2, b.1, b.2, Bool.and_self, and_self]
  | bag k ih =>
    rintro v w ⟨l, rfl, _, h⟩ ⟨l', rfl, _, h'⟩
    exact bag l l' fun p hp q hq => ih p.1 q.1 (h p hp) (h' q hq)
theorem sdat_alike {k : Kd} {p q : Val × Int} (hp : HasK k p.1) (hq : HasK k q.1) : alike (sdat p) (sdat q) = true := by
  have := kind_alike k p.1 q.1 hp hq
  rw [sdat, sdat, alike_tup, alikeAll_cons, alikeAll_cons, alikeAll_cons, this.1, this.2, alike_int, alikeAll_nil]
  rfl

/-! ### counts -/
theorem cnt_nil (v : Val) : cnt v [] = 0 := rfl
theorem cnt_cons (v : Val) (p : Val × Int) (l : List (Val × Int)) : cnt v (p :: l) = (if p.1 = v then p.2 else 0) + cnt v l := by
  unfold cnt
  rw [List.map_cons, List.sum_cons]
theorem cnt_append (v : Val) (l m : List (Val × Int)) : cnt v (l ++ m) = cnt v l + cnt v m := by
  unfold cnt
  rw [List.map_append, List.sum_append]
theorem cnt_perm (v : Val) {l m : List (Val × Int)} (h : l.Perm m) : cnt v l = cnt v m := by
  induction h with
  | nil => rfl
  | cons x _ ih => rw [cnt_cons, cnt_cons, ih]
  | swap x y l => rw [cnt_cons, cnt_cons, cnt_cons, cnt_cons]; omega
  | trans _ _ ih1 ih2 => exact ih1.trans ih2
theorem cnt_scale (v : Val) (m : Int) : ∀ l : List (Val × Int), cnt v (scale m l) = m * cnt v l
  | [] => by simp [scale, cnt_nil]
  | p :: l => by
    have ih := cnt_scale v m l
    have e : scale m (p :: l) = (p.1, m * p.2) :: scale m l := rfl
    rw [e, cnt_cons, cnt_cons, ih, Int.mul_add]
    by_cases h : p.1 = v <;> simp [h]
theorem cnt_joinR (v : Val) (acc : List (Val × Int)) (p : Val × Int) : cnt v (joinR acc p) = cnt v acc + (if p.1 = v then p.2 else 0) := by
  unfold joinR
  cases h : acc.getLast? with
  | none =>
    show cnt v (acc ++ [p]) = _
    rw [cnt_append, cnt_cons, cnt_nil, Int.add_zero]
  | some q =>
    dsimp only
    by_cases e : q.1 = p.1
    · rw [if_pos e]
      obtain ⟨r, hr⟩ : ∃ r, acc = r ++ [q] := by
        rw [List.getLast?_eq_some_iff] at h
        exact h
      subst hr
      rw [List.dropLast_concat, cnt_append, cnt_append, cnt_cons, cnt_cons, cnt_nil, e]
      by_cases hv : p.1 = v <;> simp [hv] <;> omega
    · rw [if_neg e, cnt_append, cnt_cons, cnt_nil, Int.add_zero]
theorem cnt_fold (v : Val) : ∀ (l acc : List (Val × Int)), cnt v (l.foldl joinR acc) = cnt v acc + cnt v l
  | [], acc => by rw [List.foldl_nil, cnt_nil, Int.add_zero]
  | p :: l, acc => by rw [List.foldl_cons, cnt_fold v l, cnt_joinR, cnt_cons, Int.add_assoc]
theorem cnt_filter (v : Val) : ∀ l : List (Val × Int), cnt v (l.filter fun p => decide (p.2 ≠ 0)) = cnt v l
  | [] => rfl
  | p :: l => by
    have ih := cnt_filter v l
    rw [List.filter_cons, cnt_cons]
    by_cases h : p.2 = 0
    · have e : decide (p.2 ≠ 0) = false := decide_eq_false (fun z => z h)
      rw [e, if_neg Bool.false_ne_true, ih, h]
      by_cases hv : p.1 = v <;> simp [hv]
    · have e : decide (p.2 ≠ 0) = true := decide_eq_true h
      rw [e, if_pos rfl, cnt_cons, ih]
/-- a bag's count is the sum of the counts -/
theorem cnt_bagL (v : Val) (l : List (Val × Int)) : cnt v (bagL l) = cnt v l := by
  unfold bagL
  rw [cnt_filter, cnt_fold, cnt_nil, Int.zero_add]
  exact cnt_perm v (List.mergeSort_perm _ _)

/-! ### rows of the fold come of the list -/
theorem mem_joinR {acc : List (Val × Int)} {p q : Val × Int} (h : q ∈ joinR acc p) : q.1 = p.1 ∨ ∃ r ∈ acc, r.1 = q.1 := by
  unfold joinR at h
  cases e : acc.getLast? with
  | none =>
    rw [e] at h
    rcases List.mem_append.mp h with h | h
    · exact .inr ⟨q, h, rfl⟩
    · rw [List.mem_singleton.mp h]
      exact .inl rfl
  | some r =>
    rw [e] at h
    dsimp only at h
    by_cases z : r.1 = p.1
    · rw [if_pos z] at h
      rcases List.mem_append.mp h with h | h
      · exact .inr ⟨q, List.dropLast_subset _ h, rfl⟩
      · rw [List.mem_singleton.mp h]
        exact .inl rfl
    · rw [if_neg z] at h
      rcases List.mem_append.mp h with h | h
      · exact .inr ⟨q, h, rfl⟩
      · rw [List.mem_singleton.mp h]
        exact .inl rfl
theorem mem_fold : ∀ (l acc : List (Val × Int)) (q : Val × Int), q ∈ l.foldl joinR acc → (∃ r ∈ l, r.1 = q.1) ∨ ∃ r ∈ acc, r.1 = q.1
  | [], acc, q, h => .inr ⟨q, h, rfl⟩
  | p :: l, acc, q, h => by
    rw [List.foldl_cons] at h
    rcases mem_fold l _ q h with ⟨r, hr, e⟩ | ⟨r, hr, e⟩
    · exact .inl ⟨r, List.mem_cons_of_mem _ hr, e⟩
    · rcases mem_joinR hr with z | ⟨r', hr', z⟩
      · exact .inl ⟨p, List.mem_cons_self .., z.symm.trans e⟩
      · exact .inr ⟨r', hr', z.trans e⟩
theorem mem_bagL {l : List (Val × Int)} {q : Val × Int} (h : q ∈ bagL l) : ∃ r ∈ l, r.1 = q.1 := by
  unfold bagL at h
  rcases mem_fold _ _ q (List.mem_filter.mp h).1 with ⟨r, hr, e⟩ | ⟨r, hr, _⟩
  · exact ⟨r, (List.mergeSort_perm _ _).mem_iff.mp hr, e⟩
  · cases hr
theorem length_joinR (acc : List (Val × Int)) (p : Val × Int) : (joinR acc p).length ≤ acc.length + 1 := by
  unfold joinR
  cases e : acc.getLast? with
  | none => simp
  | some r =>
    dsimp only
    by_cases z : r.1 = p.1
    · rw [if_pos z, List.length_append, List.length_dropLast, List.length_singleton]
      omega
    · rw [if_neg z, List.length_append, List.length_singleton]
      omega
theorem length_fold : ∀ (l acc : List (Val × Int)), (l.foldl joinR acc).length ≤ acc.length + l.length
  | [], acc => by simp
  | p :: l, acc => by
    rw [List.foldl_cons, List.length_cons]
    have := length_fold l (joinR acc p)
    have := length_joinR acc p
    omega
theorem length_bagL (l : List (Val × Int)) : (bagL l).length ≤ l.length := by
  unfold bagL
  refine Nat.le_trans (List.length_filter_le _ _) (Nat.le_trans (length_fold _ _) ?_)
  rw [List.length_nil, List.length_mergeSort, Nat.zero_add]
  exact Nat.le_refl _
theorem mkBag_kind {k : Kd} {l : List (Val × Int)} (hz : l.length ≤ 16777216) (h : ∀ p ∈ l, HasK k p.1) : HasK (.bag k) (mkBag l) :=
  ⟨bagL l, rfl, Nat.le_trans (length_bagL l) hz, fun p hp => by
    obtain ⟨r, hr, e⟩ := mem_bagL hp
    rw [← e]
    exact h r hr⟩
end N97

/-! KaW2 -/
set_option maxRecDepth 100000
set_option maxHeartbeats 4000000
namespace N97
open PySem PySem.Spec PyProof.Rows L2

/-! ### comprehensions of data -/
theorem not_some {H H1 : Hp} {D b : Addr} {o : HO} (hD : H D = none) (e : H b = some o) : b ≠ D := ne_of_none e hD
section
variable {K : PySem.W.Frag} {a : Addr} {xs : List V} {g : TG} {te : TE} {vs : List Nat} {σ : L2.St} {H1 : Hp} {D : Addr} {Qd : Hp → Prop}
/-- the state behind i turns of a comprehension that changes nothing -/
def PvD (H1 : Hp) (D : Addr) (F : List PyData) (i : Nat) (H : Hp) : Prop := Same H1 H ∧ ∃ acc, H D = some (.lst acc) ∧ TpAll H acc (F.take i)
theorem PvD.zero {F : List PyData} (hD : H1 D = none) : PvD H1 D F 0 (upd H1 D (.lst [])) := ⟨same_new hD _, [], upd_same, by rw [List.take_zero]; exact .nil⟩
theorem PvD.step {F : List PyData} {i : Nat} {H H4 : Hp} {y : V} {d : PyData} (hD : H1 D = none) (hz : F.length ≤ sizeLine) (e : F[i]? = some d) (p : PvD H1 D F i H) (s : Same H H4) (t : Tp H4 y d) :
    ∃ acc, H4 D = some (.lst acc) ∧ acc.length < sizeLine ∧ PvD H1 D F (i + 1) (upd H4 D (.lst (acc ++ [y]))) := by
  obtain ⟨s1, acc, hA, tA⟩ := p
  have hi : i < F.length := (List.getElem?_eq_some_iff.mp e).1
  refine ⟨acc, s _ _ hA, ?_, ?_, acc ++ [y], upd_same, ?_⟩
  · rw [tA.len, List.length_take]
    omega
  · intro b o eb
    rw [upd_ne (ne_of_none eb hD)]
    exact s _ _ (s1 _ _ eb)
  · rw [List.take_add_one, e]
    exact ((tA.mono s.fs).snoc t).mono (fs_lst (s _ _ hA))
theorem lc_tupD (F : List PyData) (hD : H1 D = none) (hl : SqT K H1 a xs) (hF : F.length = xs.length) (hz : xs.length ≤ sizeLine)
    (hs : ∀ (i : Nat) (x : V) (d : PyData) (H : Hp) (C : V → Hp → Prop), xs[i]? = some x → F[i]? = some d → Same H1 H → (∀ y H4, Same H H4 → Tp H4 y d → C y H4) →
      g x (wipe σ vs) H fun σ2 H2 => wipe σ2 vs = wipe σ vs ∧ te σ2 H2 C)
    (hd : ∀ H acc, Same H1 H → H D = some (.lst acc) → TpAll H acc F → Qd H) :
    ∃ W : Nat → Nat → Hp → Prop, (∃ m, W 0 m (upd H1 D (.lst []))) ∧ ∀ i m H, W i m H →
      ((Itt K a).stop i H ∧ Qd H) ∨ ((Itt K a).go i H ∧ ∃ Nx : Hp → Prop, (∀ H', Nx H' → ∃ m', m' < m ∧ W (i + 1) m' H') ∧ ∀ x H', (Itt K a).yld i H x H' → g x (wipe σ vs) H' fun σ2 H2 => wipe σ2 vs = wipe σ vs ∧ tYes σ2 H2 fun b H3 =>
        if b = true then te σ2 H3 fun y H4 => ∃ acc, H4 D = some (.lst acc) ∧ acc.length < sizeLine ∧ Nx (upd H4 D (.lst (acc ++ [y]))) else Nx H3) := by
  have sqt : ∀ H, Same H1 H → SqT K H a xs := fun H s => by
    rcases hl with (h | ⟨o, h⟩) | h
    · exact .inl (.inl (s _ _ h))
    · exact .inl (.inr ⟨o, s _ _ h⟩)
    · exact .inr h
  refine lc_tup (tt := tYes) (PvD H1 D F) (.zero hD) (fun i H _ p => sqt H p.1) (fun i x H hx p => ?_) (fun H p => ?_)
  · have hi : i < F.length := by rw [hF]; exact (List.getElem?_eq_some_iff.mp hx).1
    exact hs i x _ H _ hx (List.getElem?_eq_getElem hi) p.1 fun y H4 s t => p.step hD (by omega) (List.getElem?_eq_getElem hi) s t
  · obtain ⟨s, acc, hA, tA⟩ := p
    rw [← hF, List.take_length] at tA
    exact hd H acc s hA tA
theorem lc_listD (F : List PyData) (hD : H1 D = none) (hl : SqL K H1 a xs) (hF : F.length = xs.length) (hz : xs.length ≤ sizeLine)
    (hs : ∀ (i : Nat) (x : V) (d : PyData) (H : Hp) (C : V → Hp → Prop), xs[i]? = some x → F[i]? = some d → Same H1 H → (∀ y H4, Same H H4 → Tp H4 y d → C y H4) →
      g x (wipe σ vs) H fun σ2 H2 => wipe σ2 vs = wipe σ vs ∧ te σ2 H2 C)
    (hd : ∀ H acc, Same H1 H → H D = some (.lst acc) → TpAll H acc F → Qd H) :
    ∃ W : Nat → Nat → Hp → Prop, (∃ m, W 0 m (upd H1 D (.lst []))) ∧ ∀ i m H, W i m H →
      ((Itl K a).stop i H ∧ Qd H) ∨ ((Itl K a).go i H ∧ ∃ Nx : Hp → Prop, (∀ H', Nx H' → ∃ m', m' < m ∧ W (i + 1) m' H') ∧ ∀ x H', (Itl K a).yld i H x H' → g x (wipe σ vs) H' fun σ2 H2 => wipe σ2 vs = wipe σ vs ∧ tYes σ2 H2 fun b H3 =>
        if b = true then te σ2 H3 fun y H4 => ∃ acc, H4 D = some (.lst acc) ∧ acc.length < sizeLine ∧ Nx (upd H4 D (.lst (acc ++ [y]))) else Nx H3) := by
  refine lc_list (tt := tYes) (PvD H1 D F) (.zero hD) (fun i H _ p => p.1.seq hl) (fun i x H hx p => ?_) (fun H p => ?_)
  · have hi : i < F.length := by rw [hF]; exact (List.getElem?_eq_some_iff.mp hx).1
    exact hs i x _ H _ hx (List.getElem?_eq_getElem hi) p.1 fun y H4 s t => p.step hD (by omega) (List.getElem?_eq_getElem hi) s t
  · obtain ⟨s, acc, hA, tA⟩ := p
    rw [← hF, List.take_length] at tA
    exact hd H acc s hA tA
end

/-! ### keys -/
abbrev sKey : Stmt := topS 11
abbrev nKey : List Str := ["value", "field", "part", "count"]
theorem scKey : FnScope nKey ["value"] (defScope sKey) := ⟨rfl, rfl, rfl, by decide +kernel, rfl, by decide +kernel, by decide +kernel⟩
def spKey (n : Nat) : Sp := fun vs H Q _ => ∃ (v : V) (k : Kd) (x : Val), vs = [v] ∧ k.rank ≤ n ∧ HasK k x ∧ Tp H v x.enc ∧ ∀ r H', Same H H' → Tp H' r x.key → Q r H'

/-- a row's fields are of lesser kinds -/
theorem HasK.cases {k : Kd} {x : Val} (h : HasK k x) : (∃ n, x = .num n) ∨ (∃ s, x = .word s) ∨ (∃ l : List (Str × Val), x = .row (.ofF l) ∧ l.length ≤ 4 ∧ ∀ p ∈ l, ∃ k', k'.rank < k.rank ∧ HasK k' p.2) ∨
    ∃ (l : List (Val × Int)) (k' : Kd), x = .bag (.ofR l) ∧ k = .bag k' ∧ l.length ≤ 16777216 ∧ ∀ p ∈ l, HasK k' p.1 := by
  cases k with
  | num => exact .inl h
  | word => exact .inr (.inl h)
  | level =>
    obtain ⟨s, n, rfl⟩ := h
    refine .inr (.inr (.inl ⟨_, rfl, by simp, fun p hp => ?_⟩))
    rcases List.mem_cons.mp hp with rfl | hp
    · exact ⟨.word, by decide, s, rfl⟩
    · obtain rfl := List.mem_singleton.mp hp
      exact ⟨.num, by decide, n, rfl⟩
  | deep =>
    obtain ⟨n, s, z, ts, hts, rfl⟩ := h
    refine .inr (.inr (.inl ⟨_, rfl, by simp, fun p hp => ?_⟩))
    simp only [List.mem_cons, List.not_mem_nil, or_false] at hp
    rcases hp with rfl | rfl | rfl | rfl
    · exact ⟨.num, by decide, n, rfl⟩
    · exact ⟨.word, by decide, s, rfl⟩
    · refine ⟨.bag .num, by decide, _, rfl, by rw [List.length_map]; exact hts, fun p hp => ?_⟩
      obtain ⟨q, _, rfl⟩ := List.mem_map.mp hp
      exact ⟨q.1, rfl⟩
    · exact ⟨.word, by decide, z, rfl⟩
  | bag k' =>
    obtain ⟨l, rfl, hz, hl⟩ := h
    exact .inr (.inr (.inr ⟨l, k', rfl, rfl, hz, hl⟩))
section
variable {P : Program} {w : World} {K : PySem.W.Frag} {mg : Str → Option Value} {base : Heap}
theorem ok_key1 {n : Nat} {f : Addr} {fd : FuncData} (F : Fun K "_law_key" "_law_key" sKey f fd) (G : FnOk P w K mg base CX0 n f fd ["value"] (spKey n)) (bG : Binds K fd ["value"] []) (mG : mg "_law_key" = some (.ref f)) (mt : mg "tuple" = none) :
    FnOk P w K mg base CX0 (n + 1) f fd ["value"] (spKey (n + 1)) := by
  refine F.ok scKey (fun vs H Q E h => ?_) (fun cdv A outer s H vs Q E hr h => ?_)
  · obtain ⟨v, k, x, rfl, _⟩ := h
    rfl
  obtain ⟨v, k, x, rfl, hrk, hK, hT, q⟩ := h
  refine ⟨_, pss_cons (ps_if (PW.pt (pw_or (pt_cmpR op_eq (pe_ix ix_tup (pv 0) pe_int (fun _ _ => rfl)) pe_str (nomark _)) (pw_or1 (pt_cmpR op_eq (pe_ix ix_tup (pv 0) pe_int (fun _ _ => rfl)) pe_str (nomark _)))))
      (pss_one (ps_ret (pe_tupF (pa_cons (pe_bm PySem.F.plainAttrs_list PySem.F.slot_list_index PySem.F.type_list_index mt_index (pe_lst (pa_cons pe_str (pa_cons pe_str pa_nil))) (pa_cons (pe_ix ix_tup (pv 0) pe_int (fun _ _ => rfl)) pa_nil)) (pa_cons (pe_ix ix_tup (pv 0) pe_int (fun _ _ => rfl)) pa_nil))))) pss_nil)
    (pss_cons (ps_if (pt_cmpR op_eq (pe_ix ix_tup (pv 0) pe_int (fun _ _ => rfl)) pe_str (nomark _))
      (pss_one (ps_ret (pe_tupF (pa_cons pe_int (pa_cons (pe_callTy call_tupleF (by rfl) mt (by decide +kernel) (pa_cons
        (pe_lc (own := [("field", 1), ("part", 2)]) (g := gTup K 2 (gCons (gName 1) (gCons (gName 2) gNil))) (tt := tYes) rfl scKey.nd (pi_tup (pe_ix ix_tup (pv 0) pe_int (fun _ _ => rfl))) (blkOk_by (N := nKey) (sc := defScope sKey) (by decide +kernel))
          (fun _ _ _ _ _ => pg_tup rfl (pgs_cons (pg_name (i := 1) scKey.nd rfl (.inl rfl)) (pgs_cons (pg_name (i := 2) scKey.nd rfl (.inl rfl)) pgs_nil))) (fun _ _ _ _ _ => pts_nil)
          (fun _ _ _ _ _ => pe_tupF (pa_cons (pv 1) (pa_cons (pe_call G hr rfl mG F.kp bG .nil pass0 (pa_cons (pv 2) pa_nil)) pa_nil)))) pa_nil)) pa_nil))))) pss_nil)
    (pss_one (ps_ret (pe_tupF (pa_cons pe_int (pa_cons (pe_callTy call_tupleF (by rfl) mt (by decide +kernel) (pa_cons
        (pe_lc (own := [("part", 2), ("count", 3)]) (g := gTup K 2 (gCons (gName 2) (gCons (gName 3) gNil))) (tt := tYes) rfl scKey.nd (pi_tup (pe_ix ix_tup (pv 0) pe_int (fun _ _ => rfl))) (blkOk_by (N := nKey) (sc := defScope sKey) (by decide +kernel))
          (fun _ _ _ _ _ => pg_tup rfl (pgs_cons (pg_name (i := 2) scKey.nd rfl (.inl rfl)) (pgs_cons (pg_name (i := 3) scKey.nd rfl (.inl rfl)) pgs_nil))) (fun _ _ _ _ _ => pts_nil)
          (fun _ _ _ _ _ => pe_tupF (pa_cons (pe_call G hr rfl mG F.kp bG .nil pass0 (pa_cons (pv 2) pa_nil)) (pa_cons (pv 3) pa_nil)))) pa_nil)) pa_nil)))))), ?_⟩
  have two : ∀ {x y : V}, ([x, y] : List V).length ≤ sizeLine := fun {x y} => by show 2 ≤ sizeLine; decide
  rcases hK.cases with ⟨m, rfl⟩ | ⟨m, rfl⟩ | ⟨l, rfl, h4, hl⟩ | ⟨l, k', rfl, rfl, hz, hl⟩
  · obtain ⟨a, x0, x1, rfl, f0, t0, t1⟩ := hT.i2
    obtain rfl := t0.strI
    refine ⟨_, rfl, a, _, 0, _, rfl, rfl, f0.sq, rfl, rfl, _, rfl, iteT ?_⟩
    refine ⟨two, fun L hL => ?_⟩
    have s1 : Same H (upd H L (.lst [.str "num", .str "word"])) := same_new hL _
    refine ⟨.inl ⟨rfl, _, .inl (.inl upd_same)⟩, _, rfl, a, _, 0, _, rfl, rfl, (f0.mono s1.fs).sq, rfl, ?_⟩
    refine ⟨L, _, _, 0, .str "num", rfl, rfl, SqL.of upd_same, rfl, rfl, rfl, rfl, fun m z hm => absurd hm (Nat.not_lt_zero _), ?_⟩
    refine ⟨_, rfl, a, _, 1, _, rfl, rfl, (f0.mono s1.fs).sq, rfl, two, fun p o hp no => ?_⟩
    refine q _ _ (s1.trans (same_new hp _)) ?_
    exact .new hp no (.cons (.int 0) (.cons (t1.mono s1.fs) .nil))
  · obtain ⟨a, x0, x1, rfl, f0, t0, t1⟩ := hT.i2
    obtain rfl := t0.strI
    refine ⟨_, rfl, a, _, 0, _, rfl, rfl, f0.sq, rfl, rfl, _, rfl, iteF ?_⟩
    refine ⟨_, rfl, a, _, 0, _, rfl, rfl, f0.sq, rfl, rfl, _, rfl, iteT ?_⟩
    refine ⟨two, fun L hL => ?_⟩
    have s1 : Same H (upd H L (.lst [.str "num", .str "word"])) := same_new hL _
    refine ⟨.inl ⟨rfl, _, .inl (.inl upd_same)⟩, _, rfl, a, _, 0, _, rfl, rfl, (f0.mono s1.fs).sq, rfl, ?_⟩
    refine ⟨L, _, _, 1, .str "word", rfl, rfl, SqL.of upd_same, rfl, rfl, rfl, rfl, fun m z hm hz => ?_, ?_⟩
    · have : m = 0 := by omega
      subst this
      have e : V.str "num" = z := Option.some.inj hz
      subst e
      rfl
    refine ⟨_, rfl, a, _, 1, _, rfl, rfl, (f0.mono s1.fs).sq, rfl, two, fun p o hp no => ?_⟩
    refine q _ _ (s1.trans (same_new hp _)) ?_
    exact .new hp no (.cons (.int 1) (.cons (t1.mono s1.fs) .nil))
  · obtain ⟨a, x0, x1, rfl, f0, t0, t1⟩ := hT.i2
    obtain rfl := t0.strI
    rw [Val.enc_ofF] at t1
    obtain ⟨b, xs, rfl, fb, tb⟩ := t1.tupI
    have hlen : xs.length = l.length := by rw [tb.len, List.length_map]
    refine ⟨_, rfl, a, _, 0, _, rfl, rfl, f0.sq, rfl, rfl, _, rfl, iteF ?_⟩
    refine ⟨_, rfl, a, _, 0, _, rfl, rfl, f0.sq, rfl, rfl, _, rfl, iteF ?_⟩
    refine ⟨_, rfl, a, _, 0, _, rfl, rfl, f0.sq, rfl, rfl, _, rfl, iteT ?_⟩
    refine ⟨_, rfl, a, _, 1, _, rfl, rfl, f0.sq, rfl, b, rfl, ⟨xs, fb.sq⟩, fun D hD => ?_⟩
    refine lc_tupD (xs := xs) (l.map fun p => .tuple [.str p.1, p.2.key]) hD fb.sq (by rw [List.length_map, hlen]) (Nat.le_trans (by omega : xs.length ≤ 4) (by decide)) (fun i x d H2 C hx hd s2 c => ?_) (fun H2 acc s2 hA tA => ?_)
    · obtain ⟨d', e1, t2⟩ := tb.get hx
      obtain ⟨p, ep⟩ : ∃ p, l[i]? = some p := ⟨l[i]'(by rw [← hlen]; exact (List.getElem?_eq_some_iff.mp hx).1), List.getElem?_eq_getElem _⟩
      rw [List.getElem?_map, ep] at e1 hd
      cases e1
      cases hd
      obtain ⟨a2, y0, y1, rfl, f2, u0, u1⟩ := (t2.mono s2.fs).i2
      obtain rfl := u0.strI
      obtain ⟨k', hk', hK'⟩ := hl p (List.mem_of_getElem? ep)
      refine ⟨a2, _, rfl, f2.sq, rfl, _, _, rfl, _, _, rfl, rfl, rfl, ?_⟩
      refine ⟨_, rfl, _, rfl, _, k', p.2, rfl, by omega, hK', u1, fun r H3 s3 t3 => ⟨two, fun p' o hp no => ?_⟩⟩
      exact c _ _ (s3.trans (same_new hp _)) (.new hp no (.cons (.str p.1) (.cons t3 .nil)))
    · refine ⟨D, acc, rfl, SqL.of hA, fun p o hp no => ⟨two, fun p2 o2 hp2 no2 => ?_⟩⟩
      refine q _ _ (s2.trans ((same_new hp _).trans (same_new hp2 _))) ?_
      refine .new hp2 no2 (.cons (.int 2) (.cons ?_ .nil))
      rw [Val.key_ofF]
      exact .new hp no tA
  · obtain ⟨a, x0, x1, rfl, f0, t0, t1⟩ := hT.i2
    obtain rfl := t0.strI
    rw [Val.enc_ofR] at t1
    obtain ⟨b, xs, rfl, fb, tb⟩ := t1.tupI
    have hlen : xs.length = l.length := by rw [tb.len, List.length_map]
    refine ⟨_, rfl, a, _, 0, _, rfl, rfl, f0.sq, rfl, rfl, _, rfl, iteF ?_⟩
    refine ⟨_, rfl, a, _, 0, _, rfl, rfl, f0.sq, rfl, rfl, _, rfl, iteF ?_⟩
    refine ⟨_, rfl, a, _, 0, _, rfl, rfl, f0.sq, rfl, rfl, _, rfl, iteF ?_⟩
    refine ⟨_, rfl, a, _, 1, _, rfl, rfl, f0.sq, rfl, b, rfl, ⟨xs, fb.sq⟩, fun D hD => ?_⟩
    refine lc_tupD (xs := xs) (l.map fun p => .tuple [p.1.key, .int p.2]) hD fb.sq (by rw [List.length_map, hlen]) (by rw [hlen, sizeLine_eq]; exact hz) (fun i x d H2 C hx hd s2 c => ?_) (fun H2 acc s2 hA tA => ?_)
    · obtain ⟨d', e1, t2⟩ := tb.get hx
      obtain ⟨p, ep⟩ : ∃ p, l[i]? = some p := ⟨l[i]'(by rw [← hlen]; exact (List.getElem?_eq_some_iff.mp hx).1), List.getElem?_eq_getElem _⟩
      rw [List.getElem?_map, ep] at e1 hd
      cases e1
      cases hd
      obtain ⟨a2, y0, y1, rfl, f2, u0, u1⟩ := (t2.mono s2.fs).i2
      obtain rfl := u1.intI
      have hK' := hl p (List.mem_of_getElem? ep)
      have hr' : k'.rank ≤ n := by
        have : (Kd.bag k').rank = k'.rank + 1 := rfl
        omega
      refine ⟨a2, _, rfl, f2.sq, rfl, _, _, rfl, _, _, rfl, rfl, rfl, ?_⟩
      refine ⟨_, rfl, _, k', p.1, rfl, hr', hK', u0, fun r H3 s3 t3 => ⟨_, rfl, two, fun p' o hp no => ?_⟩⟩
      exact c _ _ (s3.trans (same_new hp _)) (.new hp no (.cons t3 (.cons (.int p.2) .nil)))
    · refine ⟨D, acc, rfl, SqL.of hA, fun p o hp no => ⟨two, fun p2 o2 hp2 no2 => ?_⟩⟩
      refine q _ _ (s2.trans ((same_new hp _).trans (same_new hp2 _))) ?_
      refine .new hp2 no2 (.cons (.int 3) (.cons ?_ .nil))
      rw [Val.key_ofR]
      exact .new hp no tA
theorem ok_key0 {f : Addr} {fd : FuncData} : FnOk P w K mg base CX0 0 f fd ["value"] (spKey 0) := by
  have no : ∀ vs H Q E, ¬ spKey 0 vs H Q E := fun vs H Q E h => by
    obtain ⟨v, k, x, _, hr, _⟩ := h
    have : 0 < k.rank := by cases k <;> simp [Kd.rank]
    omega
  exact ⟨fun vs H Q E h => absurd h (no vs H Q E), fun A outer s H args us vs Q E _ _ _ _ h => absurd h (no vs H Q E)⟩
theorem ok_key {f : Addr} {fd : FuncData} (F : Fun K "_law_key" "_law_key" sKey f fd) (bG : Binds K fd ["value"] []) (mG : mg "_law_key" = some (.ref f)) (mt : mg "tuple" = none) : ∀ n, FnOk P w K mg base CX0 n f fd ["value"] (spKey n)
  | 0 => ok_key0
  | n + 1 => ok_key1 F (ok_key F bG mG mt n) bG mG mt
end
end N97

/-! KaW3 -/
set_option maxRecDepth 100000
set_option maxHeartbeats 4000000
namespace N97
open PySem PySem.Spec PyProof.Rows L2

def pdat (p : Val × Int) : PyData := .tuple [p.1.enc, .int p.2]
theorem enc_bag (l : List (Val × Int)) : (Val.bag (.ofR l)).enc = .tuple [.str "bag", .tuple (l.map pdat)] := by rw [Val.enc, Val.enc_ofR]; rfl
theorem LT.mono {H H' : Hp} {a : Addr} {ds : List PyData} (h : LT H a ds) (s : Same H H') : LT H' a ds := let ⟨xs, e, t⟩ := h; ⟨xs, s _ _ e, t.mono s.fs⟩
theorem Tp.bagI {H : Hp} {v : V} {l : List (Val × Int)} (h : Tp H v (Val.bag (.ofR l)).enc) : ∃ a b xs, v = .ref a ∧ TF H a [.str "bag", .ref b] ∧ TF H b xs ∧ TpAll H xs (l.map pdat) := by
  rw [enc_bag] at h
  obtain ⟨a, x, y, rfl, f, t0, t1⟩ := h.i2
  obtain rfl := t0.strI
  obtain ⟨b, xs, rfl, fb, tb⟩ := t1.tupI
  exact ⟨a, b, xs, rfl, f, fb, tb⟩
theorem two_le {x y : V} : ([x, y] : List V).length ≤ sizeLine := by show 2 ≤ sizeLine; decide
theorem lim_le {n : Nat} (h : n ≤ 16777216) : n ≤ sizeLine := by rw [sizeLine_eq]; exact h

/-! ### _law_add -/
abbrev sAdd : Stmt := topS 13
abbrev nAdd : List Str := ["counts", "bag", "many", "value", "count"]
theorem scAdd : FnScope nAdd ["counts", "bag", "many"] (defScope sAdd) := ⟨rfl, rfl, rfl, by decide +kernel, rfl, by decide +kernel, by decide +kernel⟩
/-- all but the object at c stands -/
def But (c : Addr) (H H' : Hp) : Prop := ∀ b o, b ≠ c → H b = some o → H' b = some o
theorem But.refl (c : Addr) (H : Hp) : But c H H := fun _ _ _ e => e
theorem But.trans {c : Addr} {H H1 H2 : Hp} (x : But c H H1) (y : But c H1 H2) : But c H H2 := fun b o n e => y b o n (x b o n e)
theorem _root_.L2.Same.but {c : Addr} {H H1 : Hp} (x : Same H H1) : But c H H1 := fun b o _ e => x b o e
theorem But.upd {c : Addr} {H H1 : Hp} {o : HO} (x : But c H H1) : But c H (upd H1 c o) := fun b u n e => by rw [upd_ne n]; exact x b u n e
theorem But.fs {c : Addr} {H H1 : Hp} {xs : List V} (h : H c = some (.lst xs)) (x : But c H H1) : FS H H1 := fun b o u e => x b _ (ne_of e h (by intro z; cases z)) e
def spAdd : Sp := fun vs H Q _ => ∃ (c : Addr) (b : V) (m : Int) (l rs : List (Val × Int)), vs = [.ref c, b, .int m] ∧ LT H c (l.map pdat) ∧ Tp H b (Val.bag (.ofR rs)).enc ∧ l.length + rs.length ≤ 16777216 ∧ (∀ p ∈ rs, CMulW m p.2) ∧
  ∀ H', But c H H' → LT H' c ((l ++ scale m rs).map pdat) → Q .non H'
section
variable {P : Program} {w : World} {K : PySem.W.Frag} {mg : Str → Option Value} {base : Heap}
theorem ok_add {f : Addr} {fd : FuncData} {k : Nat} (F : Fun K "_law_add" "_law_add" sAdd f fd) : FnOk P w K mg base CX0 (k + 1) f fd ["counts", "bag", "many"] spAdd := by
  refine F.ok scAdd (fun vs H Q E h => ?_) (fun cdv A outer s H vs Q E hr h => ?_)
  · obtain ⟨c, b, m, l, rs, rfl, _⟩ := h
    rfl
  obtain ⟨c, b, m, l, rs, rfl, ⟨ys, hC, tC⟩, hB, hz, hm, q⟩ := h
  refine ⟨_, pss_one (ps_for PassesOwn.never rfl (pi_tup (pe_ix ix_tup (pv 1) pe_int (fun _ _ => rfl))) (pg_tup rfl (pgs_cons (pg_name (i := 3) scAdd.nd rfl (.inl rfl)) (pgs_cons (pg_name (i := 4) scAdd.nd rfl (.inl rfl)) pgs_nil)))
    (pss_one (ps_expr (pe_bm PySem.F.plainAttrs_list PySem.F.slot_list_append PySem.F.type_list_append mt_append (pv 0) (pa_cons (pe_tupF (pa_cons (pv 3) (pa_cons (pe_op op_mulW (pv 2) (pv 4)) pa_nil))) pa_nil))))), ?_⟩
  obtain ⟨a, e, xs, rfl, f0, f1, t1⟩ := hB.bagI
  have hlen : xs.length = rs.length := by rw [t1.len, List.length_map]
  refine ⟨_, rfl, a, _, 1, _, rfl, rfl, f0.sq, rfl, e, rfl, ⟨xs, f1.sq⟩, ?_⟩
  refine for_tup (xs := xs) (fun i σ H2 => ∃ y3 y4, σ = [some (.ref c), some (.ref a), some (.int m), y3, y4] ∧ But c H H2 ∧ LT H2 c ((l ++ scale m (rs.take i)).map pdat))
    ⟨none, none, rfl, .refl c H, ys, hC, by rw [List.take_zero]; simpa [scale] using tC⟩ (fun i σ H2 _ p => ?_) (fun i x σ H2 hx p => ?_) (fun σ H2 p => ?_)
  · obtain ⟨_, _, _, b2, _⟩ := p
    exact (f1.mono (b2.fs hC)).sq
  · obtain ⟨y3, y4, rfl, b2, zs, hz2, tz⟩ := p
    obtain ⟨d, ed, td⟩ := t1.get hx
    obtain ⟨p, ep⟩ : ∃ p, rs[i]? = some p := ⟨rs[i]'(by rw [← hlen]; exact (List.getElem?_eq_some_iff.mp hx).1), List.getElem?_eq_getElem _⟩
    rw [List.getElem?_map, ep] at ed
    cases ed
    obtain ⟨a2, u0, u1, rfl, f2, v0, v1⟩ := (td.mono (b2.fs hC)).i2
    obtain rfl := v1.intI
    refine ⟨a2, _, rfl, f2.sq, rfl, _, _, rfl, _, _, rfl, rfl, ?_⟩
    have lz : zs.length = l.length + i := by
      rw [tz.len, List.length_map, List.length_append, scale, List.length_map, List.length_take]
      have := (List.getElem?_eq_some_iff.mp ep).1
      omega
    refine ⟨_, rfl, .inl ⟨rfl, _, .inl (.inl hz2)⟩, u0, rfl, _, rfl, _, rfl, m, p.2, rfl, rfl, hm p (List.mem_of_getElem? ep), two_le, fun t o ht no => ?_⟩
    have s3 : Same H2 _ := same_new ht (.frz o (.tup [u0, .int (m * p.2)]))
    refine ⟨c, zs, _, rfl, rfl, s3 _ _ hz2, ?_, ?_⟩
    · rw [lz, sizeLine_eq]
      have := (List.getElem?_eq_some_iff.mp ep).1
      omega
    · refine ⟨_, _, rfl, (b2.trans s3.but).upd, _, upd_same, ?_⟩
      have e3 : (l ++ scale m (rs.take (i + 1))).map pdat = (l ++ scale m (rs.take i)).map pdat ++ [.tuple [p.1.enc, .int (m * p.2)]] := by
        rw [List.take_add_one, ep]
        simp [scale, pdat]
      rw [e3]
      exact ((tz.mono s3.fs).snoc (.new ht no (.cons v0 (.cons (.int _) .nil)))).mono (fs_lst (s3 _ _ hz2))
  · obtain ⟨y3, y4, rfl, b2, ht⟩ := p
    rw [hlen, List.take_length] at ht
    exact q H2 b2 ht
end

/-! ### sorted of items with a datum each -/
theorem cr_sortD {X : Cx} (hu : X.A.units + 200 < cLine) : CallR X (.builtin "sorted") (fun vs H Q => ∃ (β : Type) (g : β → V) (enc : β → PyData) (bs : List β), rSortB X.K g enc bs vs H Q) := by
  intro pins s σ H vs us Q I r h
  obtain ⟨β, g, enc, bs, h⟩ := h
  exact cr_sortB g enc bs hu pins s σ H vs us Q I r h

/-! ### _law_bag -/
abbrev sBag : Stmt := topS 12
abbrev nBag : List Str := ["counts", "found", "key", "row", "many", "pair"]
theorem scBag : FnScope nBag ["counts"] (defScope sBag) := ⟨rfl, rfl, rfl, by decide +kernel, rfl, by decide +kernel, by decide +kernel⟩
def spBag : Sp := fun vs H Q _ => ∃ (c : Addr) (k : Kd) (l : List (Val × Int)), vs = [.ref c] ∧ LT H c (l.map pdat) ∧ k.rank ≤ 8 ∧ (∀ p ∈ l, HasK k p.1) ∧ l.length ≤ 16777216 ∧
  ∀ r H', Same H H' → Tp H' r (mkBag l).enc → Q r H'
/-- an item to be sorted: its key, its row, its count -/
def Tri (H : Hp) (v : V) (p : Val × Int) : Prop := ∃ t kk r, v = .ref t ∧ H t = some (.tup [kk, r, .int p.2]) ∧ Tp H kk p.1.key ∧ Tp H r p.1.enc
theorem Tri.same {H H' : Hp} {v : V} {p : Val × Int} (h : Tri H v p) (s : Same H H') : Tri H' v p := by
  obtain ⟨t, kk, r, e, h1, h2, h3⟩ := h
  exact ⟨t, kk, r, e, s _ _ h1, h2.mono s.fs, h3.mono s.fs⟩
theorem Tri.lst {H : Hp} {v : V} {p : Val × Int} {D : Addr} {xs : List V} {o : HO} (h : Tri H v p) (hD : H D = some (.lst xs)) : Tri (upd H D o) v p := by
  obtain ⟨t, kk, r, e, h1, h2, h3⟩ := h
  refine ⟨t, kk, r, e, ?_, h2.mono (fs_lst hD), h3.mono (fs_lst hD)⟩
  rw [upd_ne (ne_of h1 hD (by intro z; cases z))]
  exact h1
def Tris (H : Hp) (vs : List V) (l : List (Val × Int)) : Prop := Paired (fun v p => Tri H v p) vs l
theorem paired_snoc {α β : Type} {F : α → β → Prop} {x : α} {y : β} (h : F x y) : ∀ {xs : List α} {ys : List β}, Paired F xs ys → Paired F (xs ++ [x]) (ys ++ [y])
  | _, _, .nil => .cons h .nil
  | _, _, .cons r t => .cons r (paired_snoc h t)
theorem paired_zip {α β : Type} {F : α → β → Prop} : ∀ {xs : List α} {ys : List β}, Paired F xs ys → (xs.zip ys).map Prod.fst = xs ∧ (xs.zip ys).map Prod.snd = ys ∧ ∀ p ∈ xs.zip ys, F p.1 p.2
  | _, _, .nil => ⟨rfl, rfl, fun p hp => nomatch hp⟩
  | _, _, .cons r t => by
    obtain ⟨h1, h2, h3⟩ := paired_zip t
    refine ⟨by simp [h1], by simp [h2], fun p hp => ?_⟩
    rw [List.zip_cons_cons] at hp
    rcases List.mem_cons.mp hp with rfl | hp
    · exact r
    · exact h3 p hp
theorem paired_of_mem {α β γ : Type} {F : α → β → Prop} (f : γ → α) (g : γ → β) : ∀ {zs : List γ}, (∀ z ∈ zs, F (f z) (g z)) → Paired F (zs.map f) (zs.map g)
  | [], _ => .nil
  | z :: zs, h => .cons (h z (List.mem_cons_self ..)) (paired_of_mem f g fun y hy => h y (List.mem_cons_of_mem _ hy))
theorem paired_at {α β : Type} {F : α → β → Prop} : ∀ {xs : List α} {ys : List β} {i : Nat} {x : α}, Paired F xs ys → xs[i]? = some x → ∃ y, ys[i]? = some y ∧ F x y
  | _, _, i, _, .nil, h => by simp at h
  | _, _, 0, x, .cons r t, h => by
    have e := Option.some.inj h
    subst e
    exact ⟨_, rfl, r⟩
  | _, _, i + 1, x, .cons r t, h => paired_at (i := i) t (by simpa using h)
theorem Tri.dp {K : PySem.W.Frag} {H : Hp} {v : V} {p : Val × Int} (h : Tri H v p) : Dp K H v (sdat p) := by
  obtain ⟨t, kk, r, rfl, h1, h2, h3⟩ := h
  exact .tup (SqT.of h1) (.cons h2.dp (.cons h3.dp (.cons (.int _) .nil)))

section
variable {P : Program} {w : World} {K : PySem.W.Frag} {mg : Str → Option Value} {base : Heap}
theorem getLast_atI {α : Type} {xs : List α} {x : α} (h : xs.getLast? = some x) : atI xs (-1) = some x := by
  obtain ⟨r, hr⟩ := List.getLast?_eq_some_iff.mp h
  rw [hr]
  exact atI_last r x
theorem ok_bag {f fK : Addr} {fd fdK : FuncData} (F : Fun K "_law_bag" "_law_bag" sBag f fd) (G : FnOk P w K mg base CX0 8 fK fdK ["value"] (spKey 8)) (bG : Binds K fdK ["value"] []) (kG : PySem.W.keepIn K (.ref fK) = true) (mG : mg "_law_key" = some (.ref fK)) (ms : mg "sorted" = none) (mt : mg "tuple" = none) :
    FnOk P w K mg base CX0 9 f fd ["counts"] spBag := by
  refine F.ok scBag (fun vs H Q E h => ?_) (fun cdv A outer s H vs Q E hr h => ?_)
  · obtain ⟨c, k, l, rfl, _⟩ := h
    rfl
  obtain ⟨c, k, l, rfl, ⟨ys, hC, tC⟩, hk, hK, hz, q⟩ := h
  have hu : (A.deeper (envOfC "_law_bag" (defScope sBag) s.heap.objs.size f cdv)).units + 200 < cLine := by have := hr.un; omega
  refine ⟨_, pss_cons (ps_set (i := 1) scBag.nd rfl (.inl rfl) (pe_lst pa_nil))
    (pss_cons (ps_for PassesOwn.never rfl (pi_list (pe_callB (cr_sortD hu) (by rfl) ms (by decide +kernel) (pa_cons
          (pe_lc (own := [("pair", 5)]) (g := gName 5) (tt := tYes) rfl scBag.nd (pi_list (pv 0)) (blkOk_by (N := nBag) (sc := defScope sBag) (by decide +kernel))
            (fun _ _ _ _ _ => pg_name (i := 5) scBag.nd rfl (.inl rfl)) (fun _ _ _ _ _ => pts_nil)
            (fun _ _ _ _ _ => pe_op (op_catK K) (pe_tupF (pa_cons (pe_call G hr rfl mG kG bG .nil pass0 (pa_cons (pe_ix (ix_tupK K) (pv 5) pe_int (fun _ _ => rfl)) pa_nil)) pa_nil)) (pv 5))) pa_nil)))
        (pg_tup rfl (pgs_cons (pg_name (i := 2) scBag.nd rfl (.inl rfl)) (pgs_cons (pg_name (i := 3) scBag.nd rfl (.inl rfl)) (pgs_cons (pg_name (i := 4) scBag.nd rfl (.inl rfl)) pgs_nil))))
      (pss_cons (ps_if (PW.pt (pw_and (pt_cmpR (op_neNil hr.units0) (pv 1) (pe_lst pa_nil) (nomark _)) (pw_and1 (pt_cmpR (op_eqP hu) (pe_ix ix_tup (pe_ix ix_list (pv 1) (pe_un un_neg pe_int) (fun _ _ => rfl)) pe_int (fun _ _ => rfl)) (pv 3) (nomark _)))))
          (pss_one (ps_set (i := 4) scBag.nd rfl (.inl rfl) (pe_op op_add (pv 4) (pe_ix ix_tup (pe_bm0 PySem.F.plainAttrs_list PySem.F.slot_list_pop PySem.F.type_list_pop mt_pop (pv 1)) pe_int (fun _ _ => rfl))))) pss_nil)
        (pss_one (ps_expr (pe_bm PySem.F.plainAttrs_list PySem.F.slot_list_append PySem.F.type_list_append mt_append (pv 1) (pa_cons (pe_tupF (pa_cons (pv 3) (pa_cons (pv 4) pa_nil))) pa_nil))))))
    (pss_one (ps_ret (pe_tupF (pa_cons pe_str (pa_cons (pe_callTy call_tupleF (by rfl) mt (by decide +kernel) (pa_cons
        (pe_lc (own := [("pair", 5)]) (g := gName 5) (tt := tTest (tOp rNe (tOp (rIxT K) (tVar 5) (L2.tC (.int 1))) (L2.tC (.int 0)))) rfl scBag.nd (pi_list (pv 1)) (blkOk_by (N := nBag) (sc := defScope sBag) (by decide +kernel))
            (fun _ _ _ _ _ => pg_name (i := 5) scBag.nd rfl (.inl rfl)) (fun _ _ _ _ _ => pts_one (pt_cmpR op_ne (pe_ix (ix_tupK K) (pv 5) pe_int (fun _ _ => rfl)) pe_int (nomark _)))
            (fun _ _ _ _ _ => pv 5)) pa_nil)) pa_nil)))))), ?_⟩
  have hlen : ys.length = l.length := by rw [tC.len, List.length_map]
  -- found = []
  refine ⟨Nat.zero_le _, fun fo hfo => ?_⟩
  have s0 : Same H (upd H fo (.lst [])) := same_new hfo _
  have hC0 : (upd H fo (.lst [])) c = some (.lst ys) := s0 _ _ hC
  -- the keyed items
  refine ⟨_, rfl, c, rfl, ⟨ys, SqL.of hC0⟩, fun D hD => ?_⟩
  refine lc_list (tt := tYes) (xs := ys) (fun i H2 => Same (upd H fo (.lst [])) H2 ∧ ∃ acc, H2 D = some (.lst acc) ∧ Tris H2 acc (l.take i))
    ⟨same_new hD _, [], upd_same, by rw [List.take_zero]; exact .nil⟩ (fun i H2 _ p => SqL.of (p.1 _ _ hC0)) (fun i x H2 hx p => ?_) (fun H2 p => ?_)
  · obtain ⟨s2, acc, hA, tA⟩ := p
    obtain ⟨d, ed, td⟩ := tC.get hx
    obtain ⟨p, ep⟩ : ∃ p, l[i]? = some p := ⟨l[i]'(by rw [← hlen]; exact (List.getElem?_eq_some_iff.mp hx).1), List.getElem?_eq_getElem _⟩
    rw [List.getElem?_map, ep] at ed
    cases ed
    obtain ⟨a2, u0, u1, rfl, f2, v0, v1⟩ := (td.mono (s0.trans s2).fs).i2
    obtain rfl := v1.intI
    have hi : i < l.length := (List.getElem?_eq_some_iff.mp ep).1
    refine ⟨rfl, _, rfl, a2, _, 0, _, rfl, rfl, f2.sq, rfl, _, k, p.1, rfl, hk, hK p (List.mem_of_getElem? ep), v0, fun r H3 s3 t3 => ?_⟩
    refine ⟨(by show 1 ≤ sizeLine; decide), fun p1 o1 hp1 no1 => ?_⟩
    have s4 : Same H3 (upd H3 p1 (.frz o1 (.tup [r]))) := same_new hp1 _
    refine ⟨_, rfl, p1, a2, [r], [u0, .int p.2], rfl, rfl, (TF.new no1).sq, (f2.mono (s3.trans s4).fs).sq, (by show 3 ≤ sizeLine; decide), (fun z => nomatch z), (fun _ z => nomatch z), fun _ _ t ht => ?_⟩
    have s5 : Same (upd H3 p1 (.frz o1 (.tup [r]))) (upd (upd H3 p1 (.frz o1 (.tup [r]))) t (.tup ([r] ++ [u0, .int p.2]))) := same_new ht _
    have sA : Same H2 _ := s3.trans (s4.trans s5)
    refine ⟨acc, sA _ _ hA, ?_, fun b o e => ?_, acc ++ [.ref t], upd_same, ?_⟩
    · rw [Paired.length tA, List.length_take, sizeLine_eq]
      omega
    · rw [upd_ne (ne_of_none e hD)]
      exact sA _ _ (s2 _ _ e)
    · have e3 : l.take (i + 1) = l.take i ++ [p] := by rw [List.take_add_one, ep]; rfl
      rw [e3]
      refine paired_snoc (Tri.lst ⟨t, r, u0, rfl, upd_same, t3.mono (s4.trans s5).fs, v0.mono sA.fs⟩ (sA _ _ hA)) ?_
      exact Paired.mapP tA fun v p' h => (h.same sA).lst (sA _ _ hA)
  · obtain ⟨s2, acc, hA, tA⟩ := p
    rw [hlen, List.take_length] at tA
    -- sorted
    obtain ⟨z1, z2, z3⟩ := paired_zip tA
    have hmem : ∀ b ∈ acc.zip l, b.2 ∈ l := fun b hb => by
      rw [← z2]
      exact List.mem_map.mpr ⟨b, hb, rfl⟩
    refine ⟨V × (Val × Int), Prod.fst, fun b => sdat b.2, acc.zip l, D, rfl, by rw [z1]; exact SqL.of hA, fun b hb => (z3 b hb).dp, ?_, ?_, fun b hb => ?_, fun sl hsl => ?_⟩
    · intro d1 h1 d2 h2
      obtain ⟨b1, hb1, rfl⟩ := List.mem_map.mp h1
      obtain ⟨b2, hb2, rfl⟩ := List.mem_map.mp h2
      exact sdat_alike (hK _ (hmem b1 hb1)) (hK _ (hmem b2 hb2))
    · exact PySem.W.Sortable.tuples fun b => ⟨_, _, rfl⟩
    · have := sdat_depth (hK _ (hmem b hb))
      show (sdat b.2).depth ≤ 100
      omega
    have esort : ((acc.zip l).mergeSort (PySem.W.dataLe false fun b => sdat b.2)).map Prod.snd = l.mergeSort (PySem.W.dataLe false sdat) := by
      rw [List.map_mergeSort (f := Prod.snd) (r := PySem.W.dataLe false fun b : V × (Val × Int) => sdat b.2) (s := PySem.W.dataLe false sdat) (l := acc.zip l) (fun _ _ _ _ => rfl), z2]
    have tS : Tris H2 (((acc.zip l).mergeSort (PySem.W.dataLe false fun b => sdat b.2)).map Prod.fst) (l.mergeSort (PySem.W.dataLe false sdat)) := by
      rw [← esort]
      exact paired_of_mem Prod.fst Prod.snd fun b hb => z3 b ((List.mergeSort_perm _ _).mem_iff.mp hb)
    generalize ((acc.zip l).mergeSort (PySem.W.dataLe false fun b => sdat b.2)).map Prod.fst = sv at tS ⊢
    have hsl2 : (l.mergeSort (PySem.W.dataLe false sdat)).length = l.length := List.length_mergeSort _
    have hKs : ∀ p ∈ l.mergeSort (PySem.W.dataLe false sdat), HasK k p.1 := fun p hp => hK p ((List.mergeSort_perm _ _).mem_iff.mp hp)
    have ebag : bagL l = ((l.mergeSort (PySem.W.dataLe false sdat)).foldl joinR []).filter fun p => decide (p.2 ≠ 0) := rfl
    generalize l.mergeSort (PySem.W.dataLe false sdat) = ls at tS hsl2 hKs ebag
    have hsv : sv.length = ls.length := Paired.length tS
    have hfo2 : H2 fo = some (.lst []) := s2 _ _ upd_same
    have s3 : Same H2 (upd H2 sl (.lst sv)) := same_new hsl _
    have hnf : sl ≠ fo := (ne_of_none hfo2 hsl).symm
    refine ⟨sl, rfl, ⟨sv, SqL.of upd_same⟩, ?_⟩
    -- the loop
    refine for_list (xs := sv) (fun i σ H4 => ∃ y2 y3 y4, σ = [some (.ref c), some (.ref fo), y2, y3, y4, none] ∧ But fo (upd H2 sl (.lst sv)) H4 ∧ LT H4 fo (((ls.take i).foldl joinR []).map pdat))
      ⟨none, none, none, rfl, .refl _ _, [], s3 _ _ hfo2, by rw [List.take_zero]; exact .nil⟩ (fun i σ H4 _ p => ?_) (fun i x σ H4 hx p => ?_) (fun σ H4 p => ?_)
    · obtain ⟨_, _, _, _, b4, _⟩ := p
      exact SqL.of (b4 _ _ hnf upd_same)
    · obtain ⟨y2, y3, y4, rfl, b4, fx, hF, tF⟩ := p
      obtain ⟨p, ep, tri⟩ := paired_at tS hx
      have hi : i < ls.length := (List.getElem?_eq_some_iff.mp ep).1
      have f34 : FS (upd H2 sl (.lst sv)) H4 := b4.fs (s3 _ _ hfo2)
      obtain ⟨t, kk, r, rfl, h1, h2, h3⟩ := tri.same s3
      have h1' : H4 t = some (.tup [kk, r, .int p.2]) := b4 _ _ (ne_of h1 (s3 _ _ hfo2) (by intro z; cases z)) h1
      have h3' : Tp H4 r p.1.enc := h3.mono f34
      refine ⟨t, _, rfl, SqT.of h1', rfl, _, _, rfl, _, _, rfl, _, _, rfl, rfl, ?_⟩
      have lF : fx.length ≤ i := by
        rw [tF.len, List.length_map]
        refine Nat.le_trans (length_fold _ _) ?_
        rw [List.length_nil, List.length_take]
        omega
      have lF2 : fx.length < sizeLine := by rw [sizeLine_eq]; omega
      have etake : (ls.take (i + 1)).foldl joinR [] = joinR ((ls.take i).foldl joinR []) p := by
        rw [List.take_add_one, ep, Option.toList_some, List.foldl_append, List.foldl_cons, List.foldl_nil]
      have hfk : ∀ g ∈ (ls.take i).foldl joinR [], HasK k g.1 := fun g hg => by
        rcases mem_fold _ _ g hg with ⟨r, hr, e⟩ | ⟨r, hr, _⟩
        · rw [← e]
          exact hKs r (List.mem_of_mem_take hr)
        · cases hr
      generalize (ls.take i).foldl joinR [] = fl at tF etake hfk
      -- found != []
      refine ⟨_, rfl, Nat.zero_le _, fun e0 he0 => ?_⟩
      have s5 : Same H4 (upd H4 e0 (.lst [])) := same_new he0 _
      refine ⟨fo, e0, fx, rfl, rfl, SqL.of (s5 _ _ hF), SqL.of upd_same, _, rfl, ?_⟩
      have app : ∀ (H5 : Hp) (many : V) (fz : List V) (fm : List (Val × Int)) (mm : Int), many = .int mm → FS H4 H5 → But fo H4 H5 → H5 fo = some (.lst fz) → TpAll H5 fz (fm.map pdat) → fz.length < sizeLine → joinR fl p = fm ++ [(p.1, mm)] →
          ∀ pa oa, H5 pa = none → NoD oa → ∃ y2' y3' y4', ([some (V.ref c), some (.ref fo), some kk, some r, some many, none] : List (Option V)) = [some (.ref c), some (.ref fo), y2', y3', y4', none] ∧
            But fo (upd H2 sl (.lst sv)) (upd (upd H5 pa (.frz oa (.tup [r, many]))) fo (.lst (fz ++ [.ref pa]))) ∧ LT (upd (upd H5 pa (.frz oa (.tup [r, many]))) fo (.lst (fz ++ [.ref pa]))) fo (((ls.take (i + 1)).foldl joinR []).map pdat) := by
        intro H5 many fz fm mm em f5 b5 hF5 tF5 lz ej pa oa hpa noa
        subst em
        have s6 : Same H5 (upd H5 pa (.frz oa (.tup [r, .int mm]))) := same_new hpa _
        refine ⟨_, _, _, rfl, ((b4.trans b5).trans s6.but).upd, _, upd_same, ?_⟩
        rw [etake, ej, List.map_append]
        exact ((tF5.mono s6.fs).snoc (.new hpa noa (.cons (h3'.mono f5) (.cons (.int _) .nil)))).mono (fs_lst (s6 _ _ hF5))
      cases hfl : fl.getLast? with
      | none =>
        have efl : fl = [] := List.getLast?_eq_none_iff.mp hfl
        subst efl
        cases tF
        refine iteF ?_
        refine iteF ?_
        have hF5 := s5 _ _ hF
        refine ⟨_, rfl, .inl ⟨rfl, _, .inl (.inl hF5)⟩, _, rfl, _, rfl, two_le, fun pa oa hpa noa => ?_⟩
        refine ⟨fo, _, _, rfl, rfl, (same_new hpa (.frz oa _)) _ _ hF5, lF2, ?_⟩
        exact app _ _ [] [] p.2 rfl s5.fs s5.but hF5 .nil lF2 rfl pa oa hpa noa
      | some g =>
        obtain ⟨fr, efr⟩ := List.getLast?_eq_some_iff.mp hfl
        subst efr
        rw [List.map_append] at tF
        have tF' := tF
        obtain ⟨fz, gz, rfl, tz, tg⟩ : ∃ fz gz, fx = fz ++ [gz] ∧ TpAll H4 fz (fr.map pdat) ∧ Tp H4 gz (pdat g) := by
          have split : ∀ (ds : List PyData) (vs : List V) (d : PyData), TpAll H4 vs (ds ++ [d]) → ∃ fz gz, vs = fz ++ [gz] ∧ TpAll H4 fz ds ∧ Tp H4 gz d := by
            intro ds
            induction ds with
            | nil =>
              intro vs d h
              obtain ⟨v, rfl, hv⟩ := h.i1
              exact ⟨[], v, rfl, .nil, hv⟩
            | cons d0 ds ih =>
              intro vs d h
              cases h with
              | cons h1 h2 =>
                obtain ⟨fz, gz, rfl, a1, a2⟩ := ih _ _ h2
                exact ⟨_ :: fz, gz, rfl, .cons h1 a1, a2⟩
          exact split _ _ _ tF
        rw [← List.map_append] at tF'
        have ene : (!(fz ++ [gz]).isEmpty) = true := by cases fz <;> rfl
        refine iteTe ene ?_
        have hF5 := s5 _ _ hF
        obtain ⟨ga, g0, g1, rfl, gf, gt0, gt1⟩ := (tg.mono s5.fs).i2
        obtain rfl := gt1.intI
        refine ⟨_, rfl, _, rfl, fo, _, -1, _, rfl, rfl, SqL.of hF5, atI_last _ _, ?_⟩
        refine ⟨ga, _, 0, _, rfl, rfl, gf.sq, rfl, _, rfl, g.1.enc, p.1.enc, gt0, h3'.mono s5.fs, ?_, fun b hb => ⟨_, rfl, ?_⟩⟩
        · have := (enc_depth k g.1 (hfk g (List.mem_append_right _ (List.mem_singleton_self _)))).1
          omega
        · have ed : (g.1.enc = p.1.enc) ↔ g.1 = p.1 := ⟨Val.enc_inj _ _, fun z => by rw [z]⟩
          rw [ed] at hb
          by_cases hgp : g.1 = p.1
          · obtain rfl := hb.mpr hgp
            refine iteT ?_
            -- many = many + found.pop()[1]
            refine ⟨_, rfl, _, rfl, .inl ⟨rfl, _, .inl (.inl hF5)⟩, fo, _, .ref ga, rfl, rfl, hF5, by simp, ?_⟩
            have b6 : But fo H4 (upd (upd H4 e0 (.lst [])) fo (.lst (fz ++ [V.ref ga]).dropLast)) := s5.but.upd
            have f6 : FS H4 (upd (upd H4 e0 (.lst [])) fo (.lst (fz ++ [V.ref ga]).dropLast)) := b6.fs hF
            have gf6 := gf.mono (fs_lst (o := .lst (fz ++ [V.ref ga]).dropLast) hF5)
            refine ⟨ga, _, 1, _, rfl, rfl, gf6.sq, rfl, p.2, g.2, rfl, rfl, ?_⟩
            have hF6 : (upd (upd H4 e0 (.lst [])) fo (.lst (fz ++ [V.ref ga]).dropLast)) fo = some (.lst fz) := by rw [upd_same, List.dropLast_concat]
            refine ⟨_, rfl, .inl ⟨rfl, _, .inl (.inl hF6)⟩, _, rfl, _, rfl, two_le, fun pa oa hpa noa => ?_⟩
            have lfz : fz.length < sizeLine := by
              rw [List.length_append] at lF2
              omega
            refine ⟨fo, _, _, rfl, rfl, (same_new hpa (.frz oa _)) _ _ hF6, lfz, ?_⟩
            refine app _ _ fz fr (p.2 + g.2) rfl f6 b6 hF6 (tz.mono f6) lfz ?_ pa oa hpa noa
            unfold joinR
            rw [hfl]
            show (if g.1 = p.1 then _ else _) = _
            rw [if_pos hgp, List.dropLast_concat]
          · obtain rfl : b = false := by
              cases b with
              | true => exact absurd (hb.mp rfl) hgp
              | false => rfl
            refine iteF ?_
            refine ⟨_, rfl, .inl ⟨rfl, _, .inl (.inl hF5)⟩, _, rfl, _, rfl, two_le, fun pa oa hpa noa => ?_⟩
            refine ⟨fo, _, _, rfl, rfl, (same_new hpa (.frz oa _)) _ _ hF5, lF2, ?_⟩
            refine app _ _ (fz ++ [.ref ga]) (fr ++ [g]) p.2 rfl s5.fs s5.but hF5 (tF'.mono s5.fs) lF2 ?_ pa oa hpa noa
            unfold joinR
            rw [hfl]
            show (if g.1 = p.1 then _ else _) = _
            rw [if_neg hgp]
    · -- the end: the rows that count
      obtain ⟨y2, y3, y4, rfl, b4, fx, hF, tF⟩ := p
      rw [hsv, List.take_length] at tF
      have lfl : (ls.foldl joinR []).length ≤ 16777216 := by
        have := length_fold ls []
        rw [List.length_nil] at this
        omega
      generalize ls.foldl joinR [] = fl at tF ebag lfl
      have lfx : fx.length = fl.length := by rw [tF.len, List.length_map]
      have sAll : Same H H4 := fun b o e => by
        have hb : b ≠ fo := ne_of_none e hfo
        exact b4 b o hb (s3 _ _ (s2 _ _ (s0 _ _ e)))
      refine ⟨_, rfl, fo, rfl, ⟨fx, SqL.of hF⟩, fun D2 hD2 => ?_⟩
      refine lc_list (xs := fx) (fun i H5 => Same H4 H5 ∧ ∃ acc, H5 D2 = some (.lst acc) ∧ TpAll H5 acc (((fl.take i).filter fun p => decide (p.2 ≠ 0)).map pdat))
        ⟨same_new hD2 _, [], upd_same, by rw [List.take_zero]; exact .nil⟩ (fun i H5 _ p => SqL.of (p.1 _ _ hF)) (fun i x H5 hx p => ?_) (fun H5 p => ?_)
      · obtain ⟨s5, acc, hA, tA⟩ := p
        obtain ⟨d, ed, td⟩ := tF.get hx
        obtain ⟨p, ep⟩ : ∃ p, fl[i]? = some p := ⟨fl[i]'(by rw [← lfx]; exact (List.getElem?_eq_some_iff.mp hx).1), List.getElem?_eq_getElem _⟩
        rw [List.getElem?_map, ep] at ed
        cases ed
        have td5 := td.mono s5.fs
        obtain ⟨a2, u0, u1, rfl, f2, v0, v1⟩ := td5.i2
        obtain rfl := v1.intI
        have hi : i < fl.length := (List.getElem?_eq_some_iff.mp ep).1
        have etake : (fl.take (i + 1)).filter (fun p => decide (p.2 ≠ 0)) = (fl.take i).filter (fun p => decide (p.2 ≠ 0)) ++ (if p.2 = 0 then [] else [p]) := by
          rw [List.take_add_one, ep, Option.toList_some, List.filter_append]
          by_cases h0 : p.2 = 0 <;> simp [h0]
        refine ⟨rfl, _, rfl, a2, _, 1, _, rfl, rfl, f2.sq, rfl, rfl, _, rfl, ?_⟩
        by_cases h0 : p.2 = 0
        · have e0 : (!decide (V.int p.2 = V.int 0)) = false := by rw [h0]; rfl
          rw [e0]
          refine iteF ⟨s5, acc, hA, ?_⟩
          rw [etake, if_pos h0, List.append_nil]
          exact tA
        · have e0 : (!decide (V.int p.2 = V.int 0)) = true := by
            rw [decide_eq_false (fun z => h0 (V.int.inj z))]
            rfl
          rw [e0]
          refine iteT ⟨_, rfl, acc, hA, ?_, ?_, acc ++ [.ref a2], upd_same, ?_⟩
          · rw [tA.len, List.length_map, sizeLine_eq]
            have := List.length_filter_le (fun p : Val × Int => decide (p.2 ≠ 0)) (fl.take i)
            rw [List.length_take] at this
            omega
          · intro b o eb
            rw [upd_ne (ne_of_none eb hD2)]
            exact s5 _ _ eb
          · rw [etake, if_neg h0, List.map_append]
            exact (tA.snoc td5).mono (fs_lst hA)
      · obtain ⟨s5, acc, hA, tA⟩ := p
        rw [lfx, List.take_length, ← ebag] at tA
        refine ⟨D2, acc, rfl, SqL.of hA, fun p1 o1 hp1 no1 => ⟨two_le, fun p2 o2 hp2 no2 => ?_⟩⟩
        have s6 : Same H5 (upd H5 p1 (.frz o1 (.tup acc))) := same_new hp1 _
        refine q _ _ (sAll.trans (s5.trans (s6.trans (same_new hp2 _)))) ?_
        unfold mkBag
        rw [enc_bag]
        exact .new hp2 no2 (.cons (.str _) (.cons (.new hp1 no1 tA) .nil))
end
end N97

/-! KaP3 -/
set_option maxRecDepth 100000
namespace N97
open PySem PySem.W PyProof.Rows

abbrev Env := Str → Option Val
abbrev Sto := Str → Val
def put (ρ : Env) (x : Str) (v : Val) : Env := fun y => if y = x then some v else ρ y
def ofB (b : Bool) : Val := .num (if b = true then 1 else 0)
def isT (v : Val) : Bool := decide (v = .num 1)
theorem isT_ofB (b : Bool) : isT (ofB b) = b := by cases b <;> decide
def getF (f : Str) (l : List (Str × Val)) : Val := match l.find? fun p => decide (p.1 = f) with
  | some p => p.2
  | none => .nil

/-- the answer to a question; a claim's truth is told as a number -/
def eval : Q → Env → Sto → Val
  | .num n, _, _ => .num n
  | .word s, _, _ => .word s
  | .var x, ρ, _ => (ρ x).getD .nil
  | .table t, _, S => S t
  | .row fs, ρ, S => .row (eval fs ρ S)
  | .fnil, _, _ => .nil
  | .fcons f q r, ρ, S => .fcons f (eval q ρ S) (eval r ρ S)
  | .att f q, ρ, S => getF f (eval q ρ S).fields
  | .add a b, ρ, S => .num ((eval a ρ S).numOf + (eval b ρ S).numOf)
  | .mul a b, ρ, S => .num ((eval a ρ S).numOf * (eval b ρ S).numOf)
  | .none_ _, _, _ => mkBag []
  | .one q, ρ, S => mkBag [(eval q ρ S, 1)]
  | .both a b, ρ, S => mkBag (scale 1 (eval a ρ S).rows ++ scale 1 (eval b ρ S).rows)
  | .times m q, ρ, S => mkBag (scale m (eval q ρ S).rows)
  | .for_ x a b, ρ, S => mkBag ((eval a ρ S).rows.flatMap fun p => scale p.2 (eval b (put ρ x p.1) S).rows)
  | .when_ t q, ρ, S => if isT (eval t ρ S) = true then eval q ρ S else mkBag []
  | .let_ x a b, ρ, S => eval b (put ρ x (eval a ρ S)) S
  | .same a b, ρ, S => ofB (decide (eval a ρ S = eval b ρ S))
  | .under a b, ρ, S => ofB (decide ((eval a ρ S).numOf < (eval b ρ S).numOf))
  | .and_ a b, ρ, S => if isT (eval a ρ S) = true then eval b ρ S else ofB false
  | .or_ a b, ρ, S => if isT (eval a ρ S) = true then ofB true else eval b ρ S
  | .not_ a, ρ, S => ofB (!isT (eval a ρ S))

def MulOk (i j : Int) : Prop := i.natAbs.log2 + j.natAbs.log2 < 1000000
/-- a question, a claim -/
def Q.isQ : Q → Bool
  | .fnil => false | .fcons .. => false | .same .. => false | .under .. => false | .and_ .. => false | .or_ .. => false | .not_ _ => false
  | _ => true
def Q.isC : Q → Bool
  | .same .. => true | .under .. => true | .and_ .. => true | .or_ .. => true | .not_ _ => true
  | _ => false
def Q.dep : Q → Nat
  | .row fs => fs.dep + 1
  | .fnil => 0
  | .fcons _ q r => max q.dep r.dep
  | .att _ q => q.dep + 1
  | .add a b => max a.dep b.dep + 1
  | .mul a b => max a.dep b.dep + 1
  | .one q => q.dep + 1
  | .both a b => max a.dep b.dep + 1
  | .times _ q => q.dep + 1
  | .for_ _ a b => max a.dep b.dep + 1
  | .when_ a b => max a.dep b.dep + 1
  | .let_ _ a b => max a.dep b.dep + 1
  | .same a b => max a.dep b.dep + 1
  | .under a b => max a.dep b.dep + 1
  | .and_ a b => max a.dep b.dep + 1
  | .or_ a b => max a.dep b.dep + 1
  | .not_ a => a.dep + 1
  | _ => 1
/-- a value of a kind that the sorting of rows can bear -/
def Knd (v : Val) : Prop := ∃ k : Kd, k.rank ≤ 8 ∧ HasK k v
/-- what the going along of a question needs -/
def Safe : Q → Env → Sto → Prop
  | .num _, _, _ => True
  | .word _, _, _ => True
  | .var x, ρ, _ => ∃ v, ρ x = some v
  | .table t, _, _ => t ∈ T5
  | .row fs, ρ, S => Safe fs ρ S ∧ ∃ l : List (Str × Q), fs = .ofF l ∧ l.length ≤ 100 ∧ ∀ p ∈ l, p.2.isQ = true
  | .fnil, _, _ => True
  | .fcons _ q r, ρ, S => Safe q ρ S ∧ Safe r ρ S
  | .att f q, ρ, S => q.isQ = true ∧ Safe q ρ S ∧ ∃ l : List (Str × Val), eval q ρ S = .row (.ofF l) ∧ (l.map (·.1)).Nodup ∧ f ∈ l.map (·.1) ∧ l.length ≤ 100
  | .add a b, ρ, S => a.isQ = true ∧ b.isQ = true ∧ Safe a ρ S ∧ Safe b ρ S ∧ ∃ n m, eval a ρ S = .num n ∧ eval b ρ S = .num m ∧ MulOk n m
  | .mul a b, ρ, S => a.isQ = true ∧ b.isQ = true ∧ Safe a ρ S ∧ Safe b ρ S ∧ ∃ n m, eval a ρ S = .num n ∧ eval b ρ S = .num m ∧ MulOk n m
  | .none_ _, _, _ => True
  | .one q, ρ, S => q.isQ = true ∧ Safe q ρ S ∧ Knd (eval q ρ S)
  | .both a b, ρ, S => a.isQ = true ∧ b.isQ = true ∧ Safe a ρ S ∧ Safe b ρ S ∧ ∃ (k : Kd) (la lb : List (Val × Int)), k.rank ≤ 8 ∧ eval a ρ S = .bag (.ofR la) ∧ eval b ρ S = .bag (.ofR lb) ∧ (∀ p ∈ la, HasK k p.1 ∧ MulOk 1 p.2) ∧ (∀ p ∈ lb, HasK k p.1 ∧ MulOk 1 p.2) ∧ la.length + lb.length ≤ 16777216
  | .times m q, ρ, S => q.isQ = true ∧ Safe q ρ S ∧ (-3 ≤ m ∧ m ≤ 3) ∧ ∃ (k : Kd) (l : List (Val × Int)), k.rank ≤ 8 ∧ eval q ρ S = .bag (.ofR l) ∧ (∀ p ∈ l, HasK k p.1 ∧ MulOk m p.2) ∧ l.length ≤ 16777216
  | .for_ x a b, ρ, S => a.isQ = true ∧ b.isQ = true ∧ Safe a ρ S ∧ ∃ (k : Kd) (la : List (Val × Int)), k.rank ≤ 8 ∧ eval a ρ S = .bag (.ofR la) ∧ la.length ≤ 16777216 ∧
      (∀ p ∈ la, Safe b (put ρ x p.1) S ∧ ∃ lb : List (Val × Int), eval b (put ρ x p.1) S = .bag (.ofR lb) ∧ (∀ q ∈ lb, HasK k q.1 ∧ MulOk p.2 q.2)) ∧
      (la.flatMap fun p => scale p.2 (eval b (put ρ x p.1) S).rows).length ≤ 16777216
  | .when_ t q, ρ, S => t.isC = true ∧ q.isQ = true ∧ Safe t ρ S ∧ (isT (eval t ρ S) = true → Safe q ρ S)
  | .let_ x a b, ρ, S => a.isQ = true ∧ b.isQ = true ∧ Safe a ρ S ∧ Safe b (put ρ x (eval a ρ S)) S
  | .same a b, ρ, S => a.isQ = true ∧ b.isQ = true ∧ Safe a ρ S ∧ Safe b ρ S ∧ Knd (eval a ρ S)
  | .under a b, ρ, S => a.isQ = true ∧ b.isQ = true ∧ Safe a ρ S ∧ Safe b ρ S ∧ ∃ n m, eval a ρ S = .num n ∧ eval b ρ S = .num m
  | .and_ a b, ρ, S => a.isC = true ∧ b.isC = true ∧ Safe a ρ S ∧ Safe b ρ S
  | .or_ a b, ρ, S => a.isC = true ∧ b.isC = true ∧ Safe a ρ S ∧ Safe b ρ S
  | .not_ a, ρ, S => a.isC = true ∧ Safe a ρ S
end N97

/-! KaW4 -/
set_option maxRecDepth 100000
set_option maxHeartbeats 8000000
namespace N97
open PySem PySem.Spec PyProof.Rows L2

abbrev sTru : Stmt := topS 14
abbrev sBnd : Stmt := topS 15
abbrev sAns : Stmt := topS 16
abbrev nTru : List Str := ["claim", "values", "store", "first", "one", "other"]
abbrev nBnd : List Str := ["asked", "values", "store", "inner", "over", "counts", "value", "count"]
abbrev nAns : List Str := ["asked", "values", "store", "word", "one", "other", "counts", "field", "part"]
theorem scTru : FnScope nTru ["claim", "values", "store"] (defScope sTru) := ⟨rfl, rfl, rfl, by decide +kernel, rfl, by decide +kernel, by decide +kernel⟩
theorem scBnd : FnScope nBnd ["asked", "values", "store"] (defScope sBnd) := ⟨rfl, rfl, rfl, by decide +kernel, rfl, by decide +kernel, by decide +kernel⟩
theorem scAns : FnScope nAns ["asked", "values", "store"] (defScope sAns) := ⟨rfl, rfl, rfl, by decide +kernel, rfl, by decide +kernel, by decide +kernel⟩

/-- the dict of the variables' values, with room for n more; the store -/
def EnvOk (H : Hp) (d : Addr) (ρ : Env) (n : Nat) : Prop := ∃ kvs : List (Key × V), H d = some (.dK kvs) ∧ kvs.length + n ≤ 1000 ∧ ∀ x v, ρ x = some v → ∃ u, valV kvs (Sum.inr x) = some u ∧ Tp H u v.enc
def StoOk (H : Hp) (d : Addr) (S : Sto) : Prop := ∃ kvs : List (Key × V), H d = some (.dK kvs) ∧ ∀ t ∈ T5, ∃ u, valV kvs (Sum.inr t) = some u ∧ Tp H u (S t).enc
theorem EnvOk.mono {H H' : Hp} {d : Addr} {ρ : Env} {n m : Nat} (h : EnvOk H d ρ n) (s : Same H H') (l : m ≤ n) : EnvOk H' d ρ m := by
  obtain ⟨kvs, e, z, q⟩ := h
  exact ⟨kvs, s _ _ e, by omega, fun x v hx => let ⟨u, h1, h2⟩ := q x v hx; ⟨u, h1, h2.mono s.fs⟩⟩
theorem StoOk.mono {H H' : Hp} {d : Addr} {S : Sto} (h : StoOk H d S) (s : Same H H') : StoOk H' d S := by
  obtain ⟨kvs, e, q⟩ := h
  exact ⟨kvs, s _ _ e, fun t ht => let ⟨u, h1, h2⟩ := q t ht; ⟨u, h1, h2.mono s.fs⟩⟩
def spAns (n : Nat) : Sp := fun vs H Q _ => ∃ (a : V) (dv ds : Addr) (q : N97.Q) (ρ : Env) (S : Sto), vs = [a, .ref dv, .ref ds] ∧ q.dep ≤ n ∧ q.isQ = true ∧ Safe q ρ S ∧ Tp H a q.enc ∧ EnvOk H dv ρ n ∧ StoOk H ds S ∧
  ∀ r H', Same H H' → Tp H' r (eval q ρ S).enc → Q r H'
def spBnd (n : Nat) : Sp := fun vs H Q _ => ∃ (a : V) (dv ds : Addr) (q : N97.Q) (ρ : Env) (S : Sto), vs = [a, .ref dv, .ref ds] ∧ q.dep ≤ n ∧ (∃ x b c, q = .for_ x b c ∨ q = .let_ x b c) ∧ Safe q ρ S ∧ Tp H a q.enc ∧ EnvOk H dv ρ n ∧ StoOk H ds S ∧
  ∀ r H', Same H H' → Tp H' r (eval q ρ S).enc → Q r H'
def spTru (n : Nat) : Sp := fun vs H Q _ => ∃ (a : V) (dv ds : Addr) (q : N97.Q) (ρ : Env) (S : Sto), vs = [a, .ref dv, .ref ds] ∧ q.dep ≤ n ∧ q.isC = true ∧ Safe q ρ S ∧ Tp H a q.enc ∧ EnvOk H dv ρ n ∧ StoOk H ds S ∧
  ∀ H', Same H H' → Q (.bl (isT (eval q ρ S))) H'
section
variable {P : Program} {w : World} {K : PySem.W.Frag} {mg : Str → Option Value} {base : Heap}
/-! ### claims -/
theorem ok_tru1 {n : Nat} {f fA : Addr} {fd fdA : FuncData} (F : Fun K "_law_truth" "_law_truth" sTru f fd)
    (GT : FnOk P w K mg base CX0 (2 * n + 10) f fd ["claim", "values", "store"] (spTru n)) (bT : Binds K fd ["claim", "values", "store"] []) (mT : mg "_law_truth" = some (.ref f))
    (GA : FnOk P w K mg base CX0 (2 * n + 10) fA fdA ["asked", "values", "store"] (spAns n)) (bA : Binds K fdA ["asked", "values", "store"] []) (kA : PySem.W.keepIn K (.ref fA) = true) (mA : mg "_law_answer" = some (.ref fA)) :
    FnOk P w K mg base CX0 (2 * n + 11) f fd ["claim", "values", "store"] (spTru (n + 1)) := by
  refine F.ok scTru (fun vs H Q E h => ?_) (fun cdv A outer s H vs Q E hr h => ?_)
  · obtain ⟨a, dv, ds, q, ρ, S, rfl, _⟩ := h
    rfl
  obtain ⟨a, dv, ds, q, ρ, S, rfl, hd, hC, hS, hT, hE, hSt, qq⟩ := h
  have hu : (A.deeper (envOfC "_law_truth" (defScope sTru) s.heap.objs.size f cdv)).units + 200 < cLine := by have := hr.un; omega
  refine ⟨_, pss_cons (ps_if (pt_cmpR op_eq (pe_ix ix_tup (pv 0) pe_int (fun _ _ => rfl)) pe_str (nomark _))
      (pss_one (ps_ret (pe_not (pe_call GT hr rfl mT F.kp bT .nil pass0 (pa_cons (pe_ix ix_tup (pv 0) pe_int (fun _ _ => rfl)) (pa_cons (pv 1) (pa_cons (pv 2) pa_nil))))))) pss_nil)
    (pss_cons (ps_if (pt_cmpR op_in_seq (pe_ix ix_tup (pv 0) pe_int (fun _ _ => rfl)) (pe_tupF (pa_cons pe_str (pa_cons pe_str pa_nil))) (by rfl))
      (pss_cons (ps_set (i := 3) scTru.nd rfl (.inl rfl) (pe_call GT hr rfl mT F.kp bT .nil pass0 (pa_cons (pe_ix ix_tup (pv 0) pe_int (fun _ _ => rfl)) (pa_cons (pv 1) (pa_cons (pv 2) pa_nil)))))
      (pss_cons (ps_if (pt_cmpR op_eq (pv 3) (pe_cmpR op_eq (pe_ix ix_tup (pv 0) pe_int (fun _ _ => rfl)) pe_str (nomark _)) (nomark _)) (pss_one (ps_ret (pv 3))) pss_nil)
      (pss_one (ps_ret (pe_call GT hr rfl mT F.kp bT .nil pass0 (pa_cons (pe_ix ix_tup (pv 0) pe_int (fun _ _ => rfl)) (pa_cons (pv 1) (pa_cons (pv 2) pa_nil)))))))) pss_nil)
    (pss_cons (ps_set (i := 4) scTru.nd rfl (.inl rfl) (pe_call GA hr rfl mA kA bA .nil pass0 (pa_cons (pe_ix ix_tup (pv 0) pe_int (fun _ _ => rfl)) (pa_cons (pv 1) (pa_cons (pv 2) pa_nil)))))
    (pss_cons (ps_set (i := 5) scTru.nd rfl (.inl rfl) (pe_call GA hr rfl mA kA bA .nil pass0 (pa_cons (pe_ix ix_tup (pv 0) pe_int (fun _ _ => rfl)) (pa_cons (pv 1) (pa_cons (pv 2) pa_nil)))))
    (pss_cons (ps_if (pt_cmpR op_eq (pe_ix ix_tup (pv 0) pe_int (fun _ _ => rfl)) pe_str (nomark _)) (pss_one (ps_ret (pe_cmpR (op_eqP hu) (pv 4) (pv 5) (nomark _)))) pss_nil)
    (pss_one (ps_ret (pe_cmpR op_lt (pe_ix ix_tup (pv 4) pe_int (fun _ _ => rfl)) (pe_ix ix_tup (pv 5) pe_int (fun _ _ => rfl)) (nomark _)))))))), ?_⟩
  cases q with
  | not_ b =>
    obtain ⟨t, x0, x1, rfl, f0, t0, t1⟩ := hT.i2
    obtain rfl := t0.strI
    obtain ⟨hCb, hSb⟩ := hS
    refine ⟨_, rfl, t, _, 0, _, rfl, rfl, f0.sq, rfl, rfl, _, rfl, iteT ?_⟩
    refine ⟨_, rfl, t, _, 1, _, rfl, rfl, f0.sq, rfl, _, rfl, _, rfl, ?_⟩
    refine ⟨x1, dv, ds, b, ρ, S, rfl, Nat.le_of_succ_le_succ hd, hCb, hSb, t1, hE.mono (.refl H) (Nat.le_succ n), hSt, fun H' s' => ⟨_, rfl, ?_⟩⟩
    have e : isT (eval (.not_ b) ρ S) = !isT (eval b ρ S) := isT_ofB _
    rw [← e]
    exact qq H' s'
  | and_ b c =>
    obtain ⟨t, x0, x1, x2, rfl, f0, t0, t1, t2⟩ := hT.i3
    obtain rfl := t0.strI
    obtain ⟨hCb, hCc, hSb, hSc⟩ := hS
    have hd' : b.dep ≤ n ∧ c.dep ≤ n := by simp only [N97.Q.dep] at hd; omega
    refine ⟨_, rfl, t, _, 0, _, rfl, rfl, f0.sq, rfl, rfl, _, rfl, iteF ?_⟩
    refine ⟨_, rfl, t, _, 0, _, rfl, rfl, f0.sq, rfl, two_le, fun p o hp no => ?_⟩
    have s1 : Same H (upd H p (.frz o (.tup [.str "and", .str "or"]))) := same_new hp _
    refine ⟨p, _, rfl, .inr (TF.new no).sq, rfl, rfl, _, rfl, iteT ?_⟩
    refine ⟨_, rfl, t, _, 1, _, rfl, rfl, (f0.mono s1.fs).sq, rfl, _, rfl, _, rfl, ?_⟩
    refine ⟨x1, dv, ds, b, ρ, S, rfl, hd'.1, hCb, hSb, t1.mono s1.fs, hE.mono s1 (Nat.le_succ n), hSt.mono s1, fun H' s' => ?_⟩
    have s2 := s1.trans s'
    refine ⟨_, rfl, _, rfl, t, _, 0, _, rfl, rfl, (f0.mono s2.fs).sq, rfl, rfl, rfl, _, rfl, ?_⟩
    have e : eval (.and_ b c) ρ S = if isT (eval b ρ S) = true then eval c ρ S else ofB false := rfl
    cases hb : isT (eval b ρ S) with
    | false =>
      refine iteT ⟨_, rfl, ?_⟩
      rw [e, hb, if_neg Bool.false_ne_true] at qq
      exact qq H' s2
    | true =>
      refine iteF ?_
      rw [e, hb, if_pos rfl] at qq
      refine ⟨_, rfl, t, _, 2, _, rfl, rfl, (f0.mono s2.fs).sq, rfl, _, rfl, _, rfl, ?_⟩
      exact ⟨x2, dv, ds, c, ρ, S, rfl, hd'.2, hCc, hSc, t2.mono s2.fs, hE.mono s2 (Nat.le_succ n), hSt.mono s2, fun H2 s3 => qq H2 (s2.trans s3)⟩
  | or_ b c =>
    obtain ⟨t, x0, x1, x2, rfl, f0, t0, t1, t2⟩ := hT.i3
    obtain rfl := t0.strI
    obtain ⟨hCb, hCc, hSb, hSc⟩ := hS
    have hd' : b.dep ≤ n ∧ c.dep ≤ n := by simp only [N97.Q.dep] at hd; omega
    refine ⟨_, rfl, t, _, 0, _, rfl, rfl, f0.sq, rfl, rfl, _, rfl, iteF ?_⟩
    refine ⟨_, rfl, t, _, 0, _, rfl, rfl, f0.sq, rfl, two_le, fun p o hp no => ?_⟩
    have s1 : Same H (upd H p (.frz o (.tup [.str "and", .str "or"]))) := same_new hp _
    refine ⟨p, _, rfl, .inr (TF.new no).sq, rfl, rfl, _, rfl, iteT ?_⟩
    refine ⟨_, rfl, t, _, 1, _, rfl, rfl, (f0.mono s1.fs).sq, rfl, _, rfl, _, rfl, ?_⟩
    refine ⟨x1, dv, ds, b, ρ, S, rfl, hd'.1, hCb, hSb, t1.mono s1.fs, hE.mono s1 (Nat.le_succ n), hSt.mono s1, fun H' s' => ?_⟩
    have s2 := s1.trans s'
    refine ⟨_, rfl, _, rfl, t, _, 0, _, rfl, rfl, (f0.mono s2.fs).sq, rfl, rfl, rfl, _, rfl, ?_⟩
    have e : eval (.or_ b c) ρ S = if isT (eval b ρ S) = true then ofB true else eval c ρ S := rfl
    cases hb : isT (eval b ρ S) with
    | true =>
      refine iteT ⟨_, rfl, ?_⟩
      rw [e, hb, if_pos rfl] at qq
      exact qq H' s2
    | false =>
      refine iteF ?_
      rw [e, hb, if_neg Bool.false_ne_true] at qq
      refine ⟨_, rfl, t, _, 2, _, rfl, rfl, (f0.mono s2.fs).sq, rfl, _, rfl, _, rfl, ?_⟩
      exact ⟨x2, dv, ds, c, ρ, S, rfl, hd'.2, hCc, hSc, t2.mono s2.fs, hE.mono s2 (Nat.le_succ n), hSt.mono s2, fun H2 s3 => qq H2 (s2.trans s3)⟩
  | same b c =>
    obtain ⟨t, x0, x1, x2, rfl, f0, t0, t1, t2⟩ := hT.i3
    obtain rfl := t0.strI
    obtain ⟨hQb, hQc, hSb, hSc, k, hk, hK⟩ := hS
    have hd' : b.dep ≤ n ∧ c.dep ≤ n := by simp only [N97.Q.dep] at hd; omega
    refine ⟨_, rfl, t, _, 0, _, rfl, rfl, f0.sq, rfl, rfl, _, rfl, iteF ?_⟩
    refine ⟨_, rfl, t, _, 0, _, rfl, rfl, f0.sq, rfl, two_le, fun p o hp no => ?_⟩
    have s1 : Same H (upd H p (.frz o (.tup [.str "and", .str "or"]))) := same_new hp _
    refine ⟨p, _, rfl, .inr (TF.new no).sq, rfl, rfl, _, rfl, iteF ?_⟩
    refine ⟨_, rfl, t, _, 1, _, rfl, rfl, (f0.mono s1.fs).sq, rfl, _, rfl, _, rfl, ?_⟩
    refine ⟨x1, dv, ds, b, ρ, S, rfl, hd'.1, hQb, hSb, t1.mono s1.fs, hE.mono s1 (Nat.le_succ n), hSt.mono s1, fun r1 H1 s' u1 => ?_⟩
    have s2 := s1.trans s'
    refine ⟨_, rfl, t, _, 2, _, rfl, rfl, (f0.mono s2.fs).sq, rfl, _, rfl, _, rfl, ?_⟩
    refine ⟨x2, dv, ds, c, ρ, S, rfl, hd'.2, hQc, hSc, t2.mono s2.fs, hE.mono s2 (Nat.le_succ n), hSt.mono s2, fun r2 H2 s3 u2 => ?_⟩
    have s4 := s2.trans s3
    refine ⟨_, rfl, t, _, 0, _, rfl, rfl, (f0.mono s4.fs).sq, rfl, rfl, _, rfl, iteT ?_⟩
    refine ⟨_, rfl, _, rfl, _, _, u1.mono s3.fs, u2, ?_, fun bb hbb => ?_⟩
    · have := (enc_depth k _ hK).1
      omega
    · have e : bb = isT (eval (.same b c) ρ S) := by
        rw [show isT (eval (.same b c) ρ S) = decide (eval b ρ S = eval c ρ S) from isT_ofB _]
        rw [Bool.eq_iff_iff, hbb, decide_eq_true_iff]
        exact ⟨Val.enc_inj _ _, fun z => by rw [z]⟩
      rw [e]
      exact qq H2 s4
  | under b c =>
    obtain ⟨t, x0, x1, x2, rfl, f0, t0, t1, t2⟩ := hT.i3
    obtain rfl := t0.strI
    obtain ⟨hQb, hQc, hSb, hSc, nb, nc, eb, ec⟩ := hS
    have hd' : b.dep ≤ n ∧ c.dep ≤ n := by simp only [N97.Q.dep] at hd; omega
    refine ⟨_, rfl, t, _, 0, _, rfl, rfl, f0.sq, rfl, rfl, _, rfl, iteF ?_⟩
    refine ⟨_, rfl, t, _, 0, _, rfl, rfl, f0.sq, rfl, two_le, fun p o hp no => ?_⟩
    have s1 : Same H (upd H p (.frz o (.tup [.str "and", .str "or"]))) := same_new hp _
    refine ⟨p, _, rfl, .inr (TF.new no).sq, rfl, rfl, _, rfl, iteF ?_⟩
    refine ⟨_, rfl, t, _, 1, _, rfl, rfl, (f0.mono s1.fs).sq, rfl, _, rfl, _, rfl, ?_⟩
    refine ⟨x1, dv, ds, b, ρ, S, rfl, hd'.1, hQb, hSb, t1.mono s1.fs, hE.mono s1 (Nat.le_succ n), hSt.mono s1, fun r1 H1 s' u1 => ?_⟩
    have s2 := s1.trans s'
    refine ⟨_, rfl, t, _, 2, _, rfl, rfl, (f0.mono s2.fs).sq, rfl, _, rfl, _, rfl, ?_⟩
    refine ⟨x2, dv, ds, c, ρ, S, rfl, hd'.2, hQc, hSc, t2.mono s2.fs, hE.mono s2 (Nat.le_succ n), hSt.mono s2, fun r2 H2 s3 u2 => ?_⟩
    have s4 := s2.trans s3
    refine ⟨_, rfl, t, _, 0, _, rfl, rfl, (f0.mono s4.fs).sq, rfl, rfl, _, rfl, iteF ?_⟩
    rw [eb] at u1
    rw [ec] at u2
    obtain ⟨p1, y0, y1, rfl, g1, _, w1⟩ := (u1.mono s3.fs).i2
    obtain ⟨p2, z0, z1, rfl, g2, _, w2⟩ := u2.i2
    obtain rfl := w1.intI
    obtain rfl := w2.intI
    refine ⟨_, rfl, p1, _, 1, _, rfl, rfl, g1.sq, rfl, _, rfl, p2, _, 1, _, rfl, rfl, g2.sq, rfl, nb, nc, rfl, rfl, ?_⟩
    have e : isT (eval (.under b c) ρ S) = decide (nb < nc) := by
      rw [show isT (eval (.under b c) ρ S) = decide ((eval b ρ S).numOf < (eval c ρ S).numOf) from isT_ofB _, eb, ec]
      rfl
    show Q (.bl (decide (nb < nc))) H2
    rw [← e]
    exact qq H2 s4
  | _ => exact absurd hC (by simp [N97.Q.isC])

/-! ### for and let -/
theorem valV_putK (kvs : List (Key × V)) (x y : Str) (u : V) : valV (putK kvs (Sum.inr x) u) (Sum.inr y) = if y = x then some u else valV kvs (Sum.inr y) := by
  rw [valV_put]
  by_cases h : y = x
  · subst h; simp
  · simp [h]
theorem putK_len (kvs : List (Key × V)) (k : Key) (u : V) : (putK kvs k u).length ≤ kvs.length + 1 := by
  unfold putK
  split
  · rw [List.length_map]; omega
  · rw [List.length_append, List.length_singleton]; omega
theorem putK_putK (kvs : List (Key × V)) (k : Key) (u v : V) : putK (putK kvs k u) k v = putK kvs k v := by
  unfold putK
  by_cases h : (kvs.any fun kv => decide (kv.1 = k)) = true
  · rw [if_pos h, if_pos h]
    have h2 : ((kvs.map fun kv => if kv.1 = k then (kv.1, u) else kv).any fun kv => decide (kv.1 = k)) = true := by
      obtain ⟨p, hp, e⟩ := List.any_eq_true.mp h
      refine List.any_eq_true.mpr ⟨(p.1, u), List.mem_map.mpr ⟨p, hp, if_pos (of_decide_eq_true e)⟩, e⟩
    rw [if_pos h2, List.map_map]
    refine List.map_congr_left fun p _ => ?_
    show (if (if p.1 = k then (p.1, u) else p).1 = k then ((if p.1 = k then (p.1, u) else p).1, v) else (if p.1 = k then (p.1, u) else p)) = _
    by_cases e : p.1 = k
    · simp [e]
    · simp [e]
  · rw [if_neg h, if_neg h]
    have h2 : ((kvs ++ [(k, u)]).any fun kv => decide (kv.1 = k)) = true := by simp
    rw [if_pos h2, List.map_append]
    have h3 : kvs.map (fun kv => if kv.1 = k then (kv.1, v) else kv) = kvs := by
      refine (List.map_congr_left fun p hp => ?_).trans (List.map_id _)
      show (if p.1 = k then (p.1, v) else p) = p
      rw [if_neg fun e => h (List.any_eq_true.mpr ⟨p, hp, decide_eq_true e⟩)]
    rw [h3]
    show kvs ++ [if k = k then (k, v) else (k, u)] = _
    rw [if_pos rfl]
theorem But.same {c : Addr} {H H1 : Hp} (x : But c H H1) (h : H c = none) : Same H H1 := fun b o e => x b o (ne_of_none e h) e
theorem ok_bnd1 {n : Nat} {f fA fB fD : Addr} {fd fdA fdB fdD : FuncData} (F : Fun K "_law_bound" "_law_bound" sBnd f fd)
    (GA : FnOk P w K mg base CX0 (2 * n + 10) fA fdA ["asked", "values", "store"] (spAns n)) (bA : Binds K fdA ["asked", "values", "store"] []) (kA : PySem.W.keepIn K (.ref fA) = true) (mA : mg "_law_answer" = some (.ref fA))
    (GB : FnOk P w K mg base CX0 9 fB fdB ["counts"] spBag) (bB : Binds K fdB ["counts"] []) (kB : PySem.W.keepIn K (.ref fB) = true) (mB : mg "_law_bag" = some (.ref fB))
    (GD : FnOk P w K mg base CX0 1 fD fdD ["counts", "bag", "many"] spAdd) (bD : Binds K fdD ["counts", "bag", "many"] []) (kD : PySem.W.keepIn K (.ref fD) = true) (mD : mg "_law_add" = some (.ref fD))
    (md : mg "dict" = none) :
    FnOk P w K mg base CX0 (2 * n + 11) f fd ["asked", "values", "store"] (spBnd (n + 1)) := by
  refine F.ok scBnd (fun vs H Q E h => ?_) (fun cdv A outer s H vs Q E hr h => ?_)
  · obtain ⟨a, dv, ds, q, ρ, S, rfl, _⟩ := h
    rfl
  obtain ⟨a, dv, ds, q, ρ, S, rfl, hd, hC, hS, hT, ⟨kvs, hV, hVz, hVx⟩, hSt, qq⟩ := h
  refine ⟨_, pss_cons (ps_set (i := 3) scBnd.nd rfl (.inl rfl) (pe_callTy call_dictD (by rfl) md (by decide +kernel) (pa_cons (pv 1) pa_nil)))
    (pss_cons (ps_set (i := 4) scBnd.nd rfl (.inl rfl) (pe_call GA hr rfl mA kA bA .nil pass0 (pa_cons (pe_ix ix_tup (pv 0) pe_int (fun _ _ => rfl)) (pa_cons (pv 1) (pa_cons (pv 2) pa_nil)))))
    (pss_cons (ps_if (pt_cmpR op_eq (pe_ix ix_tup (pv 0) pe_int (fun _ _ => rfl)) pe_str (nomark _))
      (pss_cons (ps_dput (hu_of hr) (pv 3) (pe_ix ix_tup (pv 0) pe_int (fun _ _ => rfl)) (pv 4) rfl)
      (pss_one (ps_ret (pe_call GA hr rfl mA kA bA .nil pass0 (pa_cons (pe_ix ix_tup (pv 0) pe_int (fun _ _ => rfl)) (pa_cons (pv 3) (pa_cons (pv 2) pa_nil))))))) pss_nil)
    (pss_cons (ps_set (i := 5) scBnd.nd rfl (.inl rfl) (pe_lst pa_nil))
    (pss_cons (ps_for PassesOwn.never rfl (pi_tup (pe_ix ix_tup (pv 4) pe_int (fun _ _ => rfl))) (pg_tup rfl (pgs_cons (pg_name (i := 6) scBnd.nd rfl (.inl rfl)) (pgs_cons (pg_name (i := 7) scBnd.nd rfl (.inl rfl)) pgs_nil)))
      (pss_cons (ps_dput (hu_of hr) (pv 3) (pe_ix ix_tup (pv 0) pe_int (fun _ _ => rfl)) (pv 6) rfl)
      (pss_one (ps_expr (pe_call GD (hr.mono (by omega)) rfl mD kD bD .nil pass0 (pa_cons (pv 5) (pa_cons (pe_call GA hr rfl mA kA bA .nil pass0 (pa_cons (pe_ix ix_tup (pv 0) pe_int (fun _ _ => rfl)) (pa_cons (pv 3) (pa_cons (pv 2) pa_nil)))) (pa_cons (pv 7) pa_nil))))))))
    (pss_one (ps_ret (pe_call GB (hr.mono (by omega)) rfl mB kB bB .nil pass0 (pa_cons (pv 5) pa_nil)))))))), ?_⟩
  have hV0 : EnvOk H dv ρ n := ⟨kvs, hV, by omega, hVx⟩
  obtain ⟨x, b, c, rfl | rfl⟩ := hC
  · -- for
    obtain ⟨t, x0, x1, x2, x3, rfl, f0, t0, t1, t2, t3⟩ := hT.i4
    obtain rfl := t0.strI
    obtain rfl := t1.strI
    obtain ⟨hQb, hQc, hSb, k, la, hk, ea, hlz, hla, hz⟩ := hS
    have hd' : b.dep ≤ n ∧ c.dep ≤ n := by simp only [N97.Q.dep] at hd; omega
    refine ⟨_, rfl, dv, kvs, rfl, .inl hV, fun di hdi => ?_⟩
    have s0 : Same H (upd H di (.dK kvs)) := same_new hdi _
    refine ⟨_, rfl, t, _, 2, _, rfl, rfl, (f0.mono s0.fs).sq, rfl, _, rfl, _, rfl, ?_⟩
    refine ⟨x2, dv, ds, b, ρ, S, rfl, hd'.1, hQb, hSb, t2.mono s0.fs, hV0.mono s0 (Nat.le_refl n), hSt.mono s0, fun r1 H1 s1 u1 => ?_⟩
    have s2 := s0.trans s1
    refine ⟨_, rfl, t, _, 0, _, rfl, rfl, (f0.mono s2.fs).sq, rfl, rfl, _, rfl, iteF ?_⟩
    refine ⟨Nat.zero_le _, fun co hco => ?_⟩
    have s3 : Same H1 (upd H1 co (.lst [])) := same_new hco _
    have hdi3 : (upd H1 co (.lst [])) di = some (.dK kvs) := s3 _ _ (s1 _ _ upd_same)
    rw [ea] at u1
    obtain ⟨ra, rb, xs, rfl, g0, g1, g2⟩ := (u1.mono s3.fs).bagI
    have hlen : xs.length = la.length := by rw [g2.len, List.length_map]
    refine ⟨_, rfl, ra, _, 1, _, rfl, rfl, g0.sq, rfl, rb, rfl, ⟨xs, g1.sq⟩, ?_⟩
    have hne : di ≠ co := ne_of hdi3 (show (upd H1 co (.lst [])) co = some (.lst []) from upd_same) (by intro z; cases z)
    have hdn : H di = none := hdi
    have hcn : H co = none := by
      cases e : H co with
      | none => rfl
      | some o => have := s2 _ _ e; rw [hco] at this; cases this
    -- the rows so far
    refine for_tup (xs := xs) (fun i σ H4 => ∃ y6 y7 kv4, σ = [some (.ref t), some (.ref dv), some (.ref ds), some (.ref di), some (.ref ra), some (.ref co), y6, y7] ∧
        (∀ b o, b ≠ di → b ≠ co → (upd H1 co (.lst [])) b = some o → H4 b = some o) ∧ H4 di = some (.dK kv4) ∧ (kv4 = kvs ∨ ∃ u, kv4 = putK kvs (Sum.inr x) u) ∧
        LT H4 co (((la.take i).flatMap fun p => scale p.2 (eval c (N97.put ρ x p.1) S).rows).map pdat))
      ⟨none, none, kvs, rfl, fun _ _ _ _ e => e, hdi3, .inl rfl, [], upd_same, by rw [List.take_zero]; exact .nil⟩ (fun i σ H4 _ p => ?_) (fun i xv σ H4 hx p => ?_) (fun σ H4 p => ?_)
    · obtain ⟨_, _, _, _, r4, _⟩ := p
      obtain ⟨o, ho, hno⟩ := g1
      exact .inl (.inr ⟨o, r4 _ _ (ne_of ho hdi3 (by intro z; cases z)) (ne_of ho upd_same (by intro z; cases z)) ho⟩)
    · obtain ⟨y6, y7, kv4, rfl, r4, hd4, hk4, fx, hF, tF⟩ := p
      have f4 : FS (upd H1 co (.lst [])) H4 := fun b o u e => r4 _ _ (ne_of e hdi3 (by intro z; cases z)) (ne_of e upd_same (by intro z; cases z)) e
      have s4 : Same H H4 := fun b o e => r4 _ _ (ne_of_none e hdn) (ne_of_none e hcn) (s3 _ _ (s2 _ _ e))
      obtain ⟨d, ed, td⟩ := g2.get hx
      obtain ⟨p, ep⟩ : ∃ p, la[i]? = some p := ⟨la[i]'(by rw [← hlen]; exact (List.getElem?_eq_some_iff.mp hx).1), List.getElem?_eq_getElem _⟩
      rw [List.getElem?_map, ep] at ed
      cases ed
      obtain ⟨pa, w0, w1, rfl, gp, tw0, tw1⟩ := (td.mono f4).i2
      obtain rfl := tw1.intI
      obtain ⟨hSc, lb, elb, hlb⟩ := hla p (List.mem_of_getElem? ep)
      refine ⟨pa, _, rfl, gp.sq, rfl, _, _, rfl, _, _, rfl, rfl, ?_⟩
      -- inner[asked[1]] = value
      have hz4 : kv4.length < sizeLine := by
        rw [sizeLine_eq]
        rcases hk4 with rfl | ⟨u, rfl⟩
        · omega
        · have := putK_len kvs (Sum.inr x) u
          omega
      have ek5 : putK kv4 (Sum.inr x) w0 = putK kvs (Sum.inr x) w0 := by
        rcases hk4 with rfl | ⟨u, rfl⟩
        · rfl
        · exact putK_putK kvs (Sum.inr x) u w0
      refine ⟨_, rfl, _, rfl, _, rfl, t, _, 1, _, rfl, rfl, (f0.mono s4.fs).sq, rfl, di, _, rfl, DPut.k (k := Sum.inr x) hd4 hz4, ?_⟩
      rw [ek5]
      have f5 : FS H4 (upd H4 di (.dK (putK kvs (Sum.inr x) w0))) := fs_dK hd4
      have r5 : ∀ b o, b ≠ di → H4 b = some o → (upd H4 di (.dK (putK kvs (Sum.inr x) w0))) b = some o := fun b o hb e => by rw [upd_ne hb]; exact e
      have s5 : Same H (upd H4 di (.dK (putK kvs (Sum.inr x) w0))) := fun b o e => r5 b o (ne_of_none e hdn) (s4 _ _ e)
      have E5 : EnvOk (upd H4 di (.dK (putK kvs (Sum.inr x) w0))) di (N97.put ρ x p.1) n := by
        refine ⟨_, upd_same, ?_, fun y v' hy => ?_⟩
        · have := putK_len kvs (Sum.inr x) w0
          omega
        · rw [valV_putK]
          unfold N97.put at hy
          by_cases e : y = x
          · rw [if_pos e] at hy
            rw [if_pos e]
            cases hy
            exact ⟨w0, rfl, tw0.mono f5⟩
          · rw [if_neg e] at hy
            rw [if_neg e]
            obtain ⟨u', h1, h2⟩ := hVx y v' hy
            exact ⟨u', h1, h2.mono s5.fs⟩
      have hF5 : (upd H4 di (.dK (putK kvs (Sum.inr x) w0))) co = some (.lst fx) := r5 _ _ hne.symm hF
      refine ⟨_, rfl, _, rfl, t, _, 3, _, rfl, rfl, (f0.mono s5.fs).sq, rfl, _, rfl, _, rfl, ?_⟩
      refine ⟨x3, di, ds, c, N97.put ρ x p.1, S, rfl, hd'.2, hQc, hSc, t3.mono s5.fs, E5, hSt.mono s5, fun r6 H6 s6 u6 => ?_⟩
      rw [elb] at u6
      have hi : i < la.length := (List.getElem?_eq_some_iff.mp ep).1
      have erow : (eval c (N97.put ρ x p.1) S).rows = lb := by rw [elb]; exact Val.spR_ofR lb
      have etake : (la.take (i + 1)).flatMap (fun p => scale p.2 (eval c (N97.put ρ x p.1) S).rows) = (la.take i).flatMap (fun p => scale p.2 (eval c (N97.put ρ x p.1) S).rows) ++ scale p.2 lb := by
        rw [List.take_add_one, ep, Option.toList_some, List.flatMap_append, List.flatMap_cons, List.flatMap_nil, List.append_nil, erow]
      have hzz : ((la.take (i + 1)).flatMap (fun p => scale p.2 (eval c (N97.put ρ x p.1) S).rows)).length ≤ 16777216 := by
        refine Nat.le_trans ?_ hz
        have e : la.flatMap (fun p => scale p.2 (eval c (N97.put ρ x p.1) S).rows) = (la.take (i + 1)).flatMap (fun p => scale p.2 (eval c (N97.put ρ x p.1) S).rows) ++ (la.drop (i + 1)).flatMap (fun p => scale p.2 (eval c (N97.put ρ x p.1) S).rows) := by
          rw [← List.flatMap_append, List.take_append_drop]
        rw [e, List.length_append]
        omega
      rw [etake] at hzz ⊢
      refine ⟨_, rfl, co, r6, p.2, _, lb, rfl, ⟨fx, s6 _ _ hF5, (tF.mono f5).mono s6.fs⟩, u6, ?_, fun q hq => (hlb q hq).2, fun H7 b7 l7 => ?_⟩
      · rw [List.length_append, scale, List.length_map] at hzz
        exact hzz
      · refine ⟨_, _, _, rfl, fun b o h1 h2 e => ?_, b7 _ _ hne (s6 _ _ upd_same), .inr ⟨w0, rfl⟩, l7⟩
        exact b7 b o h2 (s6 _ _ (r5 b o h1 (r4 b o h1 h2 e)))
    · obtain ⟨y6, y7, kv4, rfl, r4, hd4, hk4, hL⟩ := p
      rw [hlen, List.take_length] at hL
      have s4 : Same H H4 := fun b o e => r4 _ _ (ne_of_none e hdn) (ne_of_none e hcn) (s3 _ _ (s2 _ _ e))
      refine ⟨_, rfl, co, k, _, rfl, hL, hk, fun p hp => ?_, hz, fun r H5 s5 u5 => ?_⟩
      · obtain ⟨p', hp', hp2⟩ := List.mem_flatMap.mp hp
        obtain ⟨_, lb, elb, hlb⟩ := hla p' hp'
        rw [elb, show (Val.bag (.ofR lb)).rows = lb from Val.spR_ofR lb] at hp2
        obtain ⟨q, hq, rfl⟩ := List.mem_map.mp hp2
        exact (hlb q hq).1
      · refine qq r H5 (s4.trans s5) ?_
        rw [show eval (.for_ x b c) ρ S = mkBag ((eval b ρ S).rows.flatMap fun p => scale p.2 (eval c (N97.put ρ x p.1) S).rows) from rfl, ea, show (Val.bag (.ofR la)).rows = la from Val.spR_ofR la]
        exact u5
  · -- let
    obtain ⟨t, x0, x1, x2, x3, rfl, f0, t0, t1, t2, t3⟩ := hT.i4
    obtain rfl := t0.strI
    obtain rfl := t1.strI
    obtain ⟨hQb, hQc, hSb, hSc⟩ := hS
    have hd' : b.dep ≤ n ∧ c.dep ≤ n := by simp only [N97.Q.dep] at hd; omega
    refine ⟨_, rfl, dv, kvs, rfl, .inl hV, fun di hdi => ?_⟩
    have s0 : Same H (upd H di (.dK kvs)) := same_new hdi _
    refine ⟨_, rfl, t, _, 2, _, rfl, rfl, (f0.mono s0.fs).sq, rfl, _, rfl, _, rfl, ?_⟩
    refine ⟨x2, dv, ds, b, ρ, S, rfl, hd'.1, hQb, hSb, t2.mono s0.fs, hV0.mono s0 (Nat.le_refl n), hSt.mono s0, fun r1 H1 s1 u1 => ?_⟩
    have s2 := s0.trans s1
    refine ⟨_, rfl, t, _, 0, _, rfl, rfl, (f0.mono s2.fs).sq, rfl, rfl, _, rfl, iteT ?_⟩
    have hd1 : H1 di = some (.dK kvs) := s1 _ _ upd_same
    have hz4 : kvs.length < sizeLine := by rw [sizeLine_eq]; omega
    refine ⟨_, rfl, _, rfl, _, rfl, t, _, 1, _, rfl, rfl, (f0.mono s2.fs).sq, rfl, di, _, rfl, DPut.k (k := Sum.inr x) hd1 hz4, ?_⟩
    have f5 : FS H1 (upd H1 di (.dK (putK kvs (Sum.inr x) r1))) := fs_dK hd1
    have s5 : Same H (upd H1 di (.dK (putK kvs (Sum.inr x) r1))) := fun b o e => by
      rw [upd_ne (ne_of_none e hdi)]
      exact s2 _ _ e
    have E5 : EnvOk (upd H1 di (.dK (putK kvs (Sum.inr x) r1))) di (N97.put ρ x (eval b ρ S)) n := by
      refine ⟨_, upd_same, ?_, fun y v' hy => ?_⟩
      · have := putK_len kvs (Sum.inr x) r1
        omega
      · rw [valV_putK]
        unfold N97.put at hy
        by_cases e : y = x
        · rw [if_pos e] at hy
          rw [if_pos e]
          cases hy
          exact ⟨r1, rfl, u1.mono f5⟩
        · rw [if_neg e] at hy
          rw [if_neg e]
          obtain ⟨u', h1, h2⟩ := hVx y v' hy
          exact ⟨u', h1, h2.mono s5.fs⟩
    refine ⟨_, rfl, t, _, 3, _, rfl, rfl, (f0.mono s5.fs).sq, rfl, _, rfl, _, rfl, ?_⟩
    exact ⟨x3, di, ds, c, N97.put ρ x (eval b ρ S), S, rfl, hd'.2, hQc, hSc, t3.mono s5.fs, E5, hSt.mono s5, fun r6 H6 s6 u6 => qq r6 H6 (s5.trans s6) u6⟩
end
end N97

/-! KaW5 -/
set_option maxRecDepth 100000
set_option maxHeartbeats 8000000
namespace N97
open PySem PySem.Spec PyProof.Rows L2

/-! ### a text in a tuple of two -/
def MonoT (ta : TE) : Prop := ∀ σ H (Q Q' : VK), (∀ v H1, Q v H1 → Q' v H1) → ta σ H Q → ta σ H Q'
theorem mono_var (i : Nat) : MonoT (tVar i) := fun _ _ _ _ m ⟨v, e, q⟩ => ⟨v, e, m _ _ q⟩
theorem mono_ix (K : PySem.W.Frag) (i : Nat) (c : Int) : MonoT (tOp (rIxT K) (tVar i) (L2.tC (.int c))) := fun _ _ _ _ m ⟨v, e, p, xs, j, z, e1, e2, h1, h2, q⟩ => ⟨v, e, p, xs, j, z, e1, e2, h1, h2, m _ _ q⟩
def tIn2 (ta : TE) (a b : Str) : TT := fun σ H Q => ta σ H fun x H1 => ∃ z, x = .str z ∧ ∀ H2, Same H1 H2 → Q (decide (z = a) || decide (z = b)) H2
theorem pt_in2 {X : Cx} {e : Expr} {ta : TE} {a b : Str} {k1 k2 p1 p2 p3 p4 c} (ha : PE X e ta) (hm : MonoT ta) : PT X (.Compare e [.In] [.Tuple [.Constant (.str a) k1 p1, .Constant (.str b) k2 p2] c p3] p4) (tIn2 ta a b) := by
  refine ⟨fun pins s σ H Q I h => (pt_cmpR op_in_seq ha (pe_tupF (pa_cons pe_str (pa_cons pe_str pa_nil))) (by rfl)).run pins s σ H Q I (hm _ _ _ _ (fun v H1 q => ?_) h)⟩
  obtain ⟨z, rfl, q⟩ := q
  refine ⟨two_le, fun p o hp no => ⟨p, _, rfl, .inr (TF.new no).sq, rfl, rfl, _, rfl, ?_⟩⟩
  have e0 : (if false = true then !inV (.str z) [.str a, .str b] else inV (.str z) [.str a, .str b]) = (decide (z = a) || decide (z = b)) := by
    rw [if_neg Bool.false_ne_true]
    have : ∀ x y : Str, eqV (.str x) (.str y) = decide (x = y) := fun x y => by
      show (x == y) = decide (x = y)
      by_cases h : x = y <;> simp [h]
    show (eqV (.str a) (.str z) || (eqV (.str b) (.str z) || false)) = _
    rw [this, this, Bool.or_false]
    have c : ∀ x y : Str, decide (x = y) = decide (y = x) := fun x y => by by_cases h : x = y <;> simp [h, eq_comm]
    rw [c a z, c b z]
  rw [e0]
  exact q _ (same_new hp _)

/-! ### a row's fields as a dict -/
theorem valV_merge_not {k : Key} : ∀ (more kvs : List (Key × V)), k ∉ more.map (·.1) → valV (mergeK kvs more) k = valV kvs k
  | [], _, _ => rfl
  | p :: r, kvs, h => by
    rw [List.map_cons, List.mem_cons, not_or] at h
    show valV (mergeK (putK kvs p.1 p.2) r) k = _
    rw [valV_merge_not r _ h.2, valV_put, if_neg h.1]
theorem valV_merge_in {k : Key} {v : V} : ∀ (more kvs : List (Key × V)), (more.map (·.1)).Nodup → (k, v) ∈ more → valV (mergeK kvs more) k = some v
  | [], _, _, h => nomatch h
  | p :: r, kvs, hn, h => by
    rw [List.map_cons, List.nodup_cons] at hn
    show valV (mergeK (putK kvs p.1 p.2) r) k = _
    rcases List.mem_cons.mp h with rfl | h
    · rw [valV_merge_not r _ hn.1, valV_put, if_pos rfl]
    · exact valV_merge_in r _ hn.2 h
theorem fields_kv {H : Hp} {K : PySem.W.Frag} : ∀ {l : List (Str × Val)} {xs : List V}, TpAll H xs (l.map fun p => .tuple [.str p.1, p.2.enc]) →
    ∃ (ps : List Addr) (kvs : List (Key × V)), xs = ps.map V.ref ∧ Paired (fun p kv => SqT K H p [kV kv.1, kv.2]) ps kvs ∧ kvs.map (·.1) = l.map (fun p => Sum.inr p.1) ∧ ∀ p ∈ l, ∃ u, (Sum.inr p.1, u) ∈ kvs ∧ Tp H u p.2.enc
  | [], xs, h => by
    cases h
    exact ⟨[], [], rfl, .nil, rfl, fun _ h => nomatch h⟩
  | p :: r, xs, h => by
    cases h with
    | cons h1 h2 =>
      obtain ⟨ps, kvs, e1, e2, e3, e4⟩ := fields_kv (l := r) h2
      obtain ⟨a, x, y, rfl, f, t0, t1⟩ := h1.i2
      obtain rfl := t0.strI
      refine ⟨a :: ps, (Sum.inr p.1, y) :: kvs, by rw [e1]; rfl, .cons f.sq e2, by rw [List.map_cons, List.map_cons, e3], fun p' hp => ?_⟩
      rcases List.mem_cons.mp hp with rfl | hp
      · exact ⟨y, List.mem_cons_self .., t1⟩
      · obtain ⟨u, h3, h4⟩ := e4 p' hp
        exact ⟨u, List.mem_cons_of_mem _ h3, h4⟩
theorem getF_mem {f : Str} {l : List (Str × Val)} (h : f ∈ l.map (·.1)) : (f, getF f l) ∈ l := by
  obtain ⟨p, hp, e⟩ := List.mem_map.mp h
  unfold getF
  cases c : l.find? fun p => decide (p.1 = f) with
  | none => exact absurd (List.find?_eq_none.mp c p hp) (by simp [e])
  | some q =>
    have h1 := List.mem_of_find?_eq_some c
    have h2 : q.1 = f := by simpa using List.find?_some c
    subst h2
    exact h1
theorem eval_ofF (ρ : Env) (S : Sto) : ∀ l : List (Str × N97.Q), eval (.ofF l) ρ S = Val.ofF (l.map fun p => (p.1, eval p.2 ρ S))
  | [] => rfl
  | (f, q) :: r => by
    show Val.fcons f (eval q ρ S) (eval (.ofF r) ρ S) = _
    rw [eval_ofF ρ S r]
    rfl
theorem safe_ofF (ρ : Env) (S : Sto) : ∀ l : List (Str × N97.Q), Safe (.ofF l) ρ S → ∀ p ∈ l, Safe p.2 ρ S
  | [], _, _, h => nomatch h
  | (f, q) :: r, hs, p, h => by
    obtain ⟨h1, h2⟩ := hs
    rcases List.mem_cons.mp h with rfl | h
    · exact h1
    · exact safe_ofF ρ S r h2 p h
theorem dep_ofF : ∀ l : List (Str × N97.Q), ∀ p ∈ l, p.2.dep ≤ (N97.Q.ofF l).dep
  | [], _, h => nomatch h
  | (f, q) :: r, p, h => by
    rcases List.mem_cons.mp h with rfl | h
    · exact Nat.le_max_left _ _
    · exact Nat.le_trans (dep_ofF r p h) (Nat.le_max_right _ _)
theorem one_le1 {x : V} : ([x] : List V).length ≤ sizeLine := by show 1 ≤ sizeLine; decide
theorem scale_len (m : Int) (l : List (Val × Int)) : (scale m l).length = l.length := by rw [scale, List.length_map]
theorem scale_kind {k : Kd} {m : Int} {l : List (Val × Int)} (h : ∀ p ∈ l, HasK k p.1) : ∀ p ∈ scale m l, HasK k p.1 := fun p hp => by
  obtain ⟨q, hq, rfl⟩ := List.mem_map.mp hp
  exact h q hq
section
variable {P : Program} {w : World} {K : PySem.W.Frag} {mg : Str → Option Value} {base : Heap}
theorem ok_ans1 {n : Nat} {f fT fB fG fD : Addr} {fd fdT fdB fdG fdD : FuncData} (F : Fun K "_law_answer" "_law_answer" sAns f fd)
    (GA : FnOk P w K mg base CX0 (2 * n + 10) f fd ["asked", "values", "store"] (spAns n)) (bA : Binds K fd ["asked", "values", "store"] []) (mA : mg "_law_answer" = some (.ref f))
    (GT : FnOk P w K mg base CX0 (2 * n + 11) fT fdT ["claim", "values", "store"] (spTru (n + 1))) (bT : Binds K fdT ["claim", "values", "store"] []) (kT : PySem.W.keepIn K (.ref fT) = true) (mT : mg "_law_truth" = some (.ref fT))
    (GB : FnOk P w K mg base CX0 (2 * n + 11) fB fdB ["asked", "values", "store"] (spBnd (n + 1))) (bB : Binds K fdB ["asked", "values", "store"] []) (kB : PySem.W.keepIn K (.ref fB) = true) (mB : mg "_law_bound" = some (.ref fB))
    (GG : FnOk P w K mg base CX0 9 fG fdG ["counts"] spBag) (bG : Binds K fdG ["counts"] []) (kG : PySem.W.keepIn K (.ref fG) = true) (mG : mg "_law_bag" = some (.ref fG))
    (GD : FnOk P w K mg base CX0 1 fD fdD ["counts", "bag", "many"] spAdd) (bD : Binds K fdD ["counts", "bag", "many"] []) (kD : PySem.W.keepIn K (.ref fD) = true) (mD : mg "_law_add" = some (.ref fD))
    (md : mg "dict" = none) (mt : mg "tuple" = none) (mi : mg "int" = none) :
    FnOk P w K mg base CX0 (2 * n + 12) f fd ["asked", "values", "store"] (spAns (n + 1)) := by
  refine F.ok scAns (fun vs H Q E h => ?_) (fun cdv A outer s H vs Q E hr h => ?_)
  · obtain ⟨a, dv, ds, q, ρ, S, rfl, _⟩ := h
    rfl
  obtain ⟨a, dv, ds, q, ρ, S, rfl, hd, hQ, hS, hT, hE, hSt, qq⟩ := h
  have hr2 := hr.mono (show 2 * n + 10 ≤ 2 * n + 11 by omega)
  refine ⟨_, pss_cons (ps_set (i := 3) scAns.nd rfl (.inl rfl) (pe_ix ix_tup (pv 0) pe_int (fun _ _ => rfl)))
    (pss_cons (ps_if (pt_in2 (pv 3) (mono_var 3)) (pss_one (ps_ret (pv 0))) pss_nil)
    (pss_cons (ps_if (pt_cmpR op_eq (pv 3) pe_str (nomark _)) (pss_one (ps_ret (pe_dget (hu_of hr) (pv 1) (pe_ix ix_tup (pv 0) pe_int (fun _ _ => rfl)) (fun _ _ => rfl)))) pss_nil)
    (pss_cons (ps_if (pt_cmpR op_eq (pv 3) pe_str (nomark _)) (pss_one (ps_ret (pe_dget (hu_of hr) (pv 2) (pe_ix ix_tup (pv 0) pe_int (fun _ _ => rfl)) (fun _ _ => rfl)))) pss_nil)
    (pss_cons (ps_if (pt_cmpR op_eq (pv 3) pe_str (nomark _)) (pss_one (ps_ret (pe_tupF (pa_cons pe_str (pa_cons (pe_callTy call_tupleF (by rfl) mt (by decide +kernel) (pa_cons
        (pe_lc (own := [("field", 7), ("part", 8)]) (g := gTup K 2 (gCons (gName 7) (gCons (gName 8) gNil))) (tt := tYes) rfl scAns.nd (pi_tup (pe_ix ix_tup (pv 0) pe_int (fun _ _ => rfl))) (blkOk_by (N := nAns) (sc := defScope sAns) (by decide +kernel))
          (fun _ _ _ _ _ => pg_tup rfl (pgs_cons (pg_name (i := 7) scAns.nd rfl (.inl rfl)) (pgs_cons (pg_name (i := 8) scAns.nd rfl (.inl rfl)) pgs_nil))) (fun _ _ _ _ _ => pts_nil)
          (fun _ _ _ _ _ => pe_tupF (pa_cons (pv 7) (pa_cons (pe_call GA hr2 rfl mA F.kp bA .nil pass0 (pa_cons (pv 8) (pa_cons (pv 1) (pa_cons (pv 2) pa_nil)))) pa_nil)))) pa_nil)) pa_nil))))) pss_nil)
    (pss_cons (ps_if (pt_cmpR op_eq (pv 3) pe_str (nomark _)) (pss_one (ps_ret (pe_dget (hu_of hr)
        (pe_callTy (call_dictT rfl) (by rfl) md (by decide +kernel) (pa_cons (pe_ix ix_tup (pe_call GA hr2 rfl mA F.kp bA .nil pass0 (pa_cons (pe_ix ix_tup (pv 0) pe_int (fun _ _ => rfl)) (pa_cons (pv 1) (pa_cons (pv 2) pa_nil)))) pe_int (fun _ _ => rfl)) pa_nil))
        (pe_ix ix_tup (pv 0) pe_int (fun _ _ => rfl)) (fun _ _ => rfl)))) pss_nil)
    (pss_cons (ps_if (pt_in2 (pv 3) (mono_var 3)) (pss_one (ps_ret (pe_call GB hr rfl mB kB bB .nil pass0 (pa_cons (pv 0) (pa_cons (pv 1) (pa_cons (pv 2) pa_nil)))))) pss_nil)
    (pss_cons (ps_if (pt_in2 (pv 3) (mono_var 3))
        (pss_cons (ps_set (i := 4) scAns.nd rfl (.inl rfl) (pe_ix ix_tup (pe_call GA hr2 rfl mA F.kp bA .nil pass0 (pa_cons (pe_ix ix_tup (pv 0) pe_int (fun _ _ => rfl)) (pa_cons (pv 1) (pa_cons (pv 2) pa_nil)))) pe_int (fun _ _ => rfl)))
        (pss_cons (ps_set (i := 5) scAns.nd rfl (.inl rfl) (pe_ix ix_tup (pe_call GA hr2 rfl mA F.kp bA .nil pass0 (pa_cons (pe_ix ix_tup (pv 0) pe_int (fun _ _ => rfl)) (pa_cons (pv 1) (pa_cons (pv 2) pa_nil)))) pe_int (fun _ _ => rfl)))
        (pss_one (ps_ret (pe_tupF (pa_cons pe_str (pa_cons (pe_ix ix_list (pe_lst (pa_cons (pe_op op_add (pv 4) (pv 5)) (pa_cons (pe_op op_mulW (pv 4) (pv 5)) pa_nil)))
          (pe_callTy call_int1 (by rfl) mi (by decide +kernel) (pa_cons (pe_cmpR op_eq (pv 3) pe_str (nomark _)) pa_nil)) (fun _ _ => rfl)) pa_nil))))))) pss_nil)
    (pss_cons (ps_set (i := 6) scAns.nd rfl (.inl rfl) (pe_lst pa_nil))
    (pss_cons (ps_if (pt_cmpR op_eq (pv 3) pe_str (nomark _))
        (pss_one (ps_expr (pe_bm PySem.F.plainAttrs_list PySem.F.slot_list_append PySem.F.type_list_append mt_append (pv 6) (pa_cons (pe_tupF (pa_cons (pe_call GA hr2 rfl mA F.kp bA .nil pass0 (pa_cons (pe_ix ix_tup (pv 0) pe_int (fun _ _ => rfl)) (pa_cons (pv 1) (pa_cons (pv 2) pa_nil)))) (pa_cons pe_int pa_nil))) pa_nil))))
        (pss_one (ps_if (pt_cmpR op_eq (pv 3) pe_str (nomark _))
          (pss_cons (ps_expr (pe_call GD (hr.mono (by omega)) rfl mD kD bD .nil pass0 (pa_cons (pv 6) (pa_cons (pe_call GA hr2 rfl mA F.kp bA .nil pass0 (pa_cons (pe_ix ix_tup (pv 0) pe_int (fun _ _ => rfl)) (pa_cons (pv 1) (pa_cons (pv 2) pa_nil)))) (pa_cons pe_int pa_nil)))))
          (pss_one (ps_expr (pe_call GD (hr.mono (by omega)) rfl mD kD bD .nil pass0 (pa_cons (pv 6) (pa_cons (pe_call GA hr2 rfl mA F.kp bA .nil pass0 (pa_cons (pe_ix ix_tup (pv 0) pe_int (fun _ _ => rfl)) (pa_cons (pv 1) (pa_cons (pv 2) pa_nil)))) (pa_cons pe_int pa_nil)))))))
          (pss_one (ps_if (pt_cmpR op_eq (pv 3) pe_str (nomark _))
            (pss_one (ps_expr (pe_call GD (hr.mono (by omega)) rfl mD kD bD .nil pass0 (pa_cons (pv 6) (pa_cons (pe_call GA hr2 rfl mA F.kp bA .nil pass0 (pa_cons (pe_ix ix_tup (pv 0) pe_int (fun _ _ => rfl)) (pa_cons (pv 1) (pa_cons (pv 2) pa_nil)))) (pa_cons (pe_ix ix_tup (pv 0) pe_int (fun _ _ => rfl)) pa_nil))))))
            (pss_one (ps_if (PW.pt (pw_and (pt_cmpR op_eq (pv 3) pe_str (nomark _)) (pw_and1 (pt_val (pe_call GT hr rfl mT kT bT .nil pass0 (pa_cons (pe_ix ix_tup (pv 0) pe_int (fun _ _ => rfl)) (pa_cons (pv 1) (pa_cons (pv 2) pa_nil))))))))
              (pss_one (ps_ret (pe_call GA hr2 rfl mA F.kp bA .nil pass0 (pa_cons (pe_ix ix_tup (pv 0) pe_int (fun _ _ => rfl)) (pa_cons (pv 1) (pa_cons (pv 2) pa_nil))))))
              pss_nil)))))))
    (pss_one (ps_ret (pe_call GG (hr.mono (by omega)) rfl mG kG bG .nil pass0 (pa_cons (pv 6) pa_nil))))))))))))), ?_⟩
  cases q with
  | num m =>
    have hT0 := hT
    obtain ⟨t, x0, x1, rfl, f0, t0, t1⟩ := hT.i2
    obtain rfl := t0.strI
    refine ⟨_, rfl, t, _, 0, _, rfl, rfl, f0.sq, rfl, ?_⟩
    exact ⟨_, rfl, _, rfl, fun H1 s1 => iteT ⟨_, rfl, qq _ _ s1 (hT0.mono s1.fs)⟩⟩
  | word m =>
    have hT0 := hT
    obtain ⟨t, x0, x1, rfl, f0, t0, t1⟩ := hT.i2
    obtain rfl := t0.strI
    refine ⟨_, rfl, t, _, 0, _, rfl, rfl, f0.sq, rfl, ?_⟩
    exact ⟨_, rfl, _, rfl, fun H1 s1 => iteT ⟨_, rfl, qq _ _ s1 (hT0.mono s1.fs)⟩⟩
  | var x =>
    obtain ⟨t, x0, x1, rfl, f0, t0, t1⟩ := hT.i2
    obtain rfl := t0.strI
    obtain rfl := t1.strI
    obtain ⟨v, hv⟩ := hS
    refine ⟨_, rfl, t, _, 0, _, rfl, rfl, f0.sq, rfl, ?_⟩
    refine ⟨_, rfl, _, rfl, fun H1 s1 => iteF ?_⟩
    refine ⟨_, rfl, rfl, _, rfl, iteT ?_⟩
    obtain ⟨kvs, hV, _, hx⟩ := hE.mono s1 (Nat.le_refl _)
    obtain ⟨u, h1, h2⟩ := hx x v hv
    refine ⟨_, rfl, _, rfl, t, _, 1, _, rfl, rfl, (f0.mono s1.fs).sq, rfl, dv, u, rfl, .inl ⟨kvs, Sum.inr x, .inl hV, rfl, h1.symm⟩, qq _ _ s1 ?_⟩
    rw [show eval (.var x) ρ S = (ρ x).getD .nil from rfl, hv]
    exact h2
  | table x =>
    obtain ⟨t, x0, x1, rfl, f0, t0, t1⟩ := hT.i2
    obtain rfl := t0.strI
    obtain rfl := t1.strI
    refine ⟨_, rfl, t, _, 0, _, rfl, rfl, f0.sq, rfl, ?_⟩
    refine ⟨_, rfl, _, rfl, fun H1 s1 => iteF ?_⟩
    refine ⟨_, rfl, rfl, _, rfl, iteF ?_⟩
    refine ⟨_, rfl, rfl, _, rfl, iteT ?_⟩
    obtain ⟨kvs, hV, hx⟩ := hSt.mono s1
    obtain ⟨u, h1, h2⟩ := hx x hS
    exact ⟨_, rfl, _, rfl, t, _, 1, _, rfl, rfl, (f0.mono s1.fs).sq, rfl, ds, u, rfl, .inl ⟨kvs, Sum.inr x, .inl hV, rfl, h1.symm⟩, qq _ _ s1 h2⟩
  | row fs =>
    obtain ⟨t, x0, x1, rfl, f0, t0, t1⟩ := hT.i2
    obtain rfl := t0.strI
    obtain ⟨hSf, l, rfl, hl, hlq⟩ := hS
    rw [N97.Q.enc_ofF] at t1
    have hdep := dep_ofF l
    have hsafe := safe_ofF ρ S l hSf
    have hd' : (N97.Q.ofF l).dep ≤ n := Nat.le_of_succ_le_succ hd
    refine ⟨_, rfl, t, _, 0, _, rfl, rfl, f0.sq, rfl, ?_⟩
    refine ⟨_, rfl, _, rfl, fun H1 s1 => iteF ?_⟩
    refine ⟨_, rfl, rfl, _, rfl, iteF ?_⟩
    refine ⟨_, rfl, rfl, _, rfl, iteF ?_⟩
    refine ⟨_, rfl, rfl, _, rfl, iteT ?_⟩
    obtain ⟨b, xs, rfl, fb, tb⟩ := (t1.mono s1.fs).tupI
    have hlen : xs.length = l.length := by rw [tb.len, List.length_map]
    refine ⟨_, rfl, t, _, 1, _, rfl, rfl, (f0.mono s1.fs).sq, rfl, b, rfl, ⟨xs, fb.sq⟩, fun D hD => ?_⟩
    refine lc_tupD (xs := xs) (l.map fun p => .tuple [.str p.1, (eval p.2 ρ S).enc]) hD fb.sq (by rw [List.length_map, hlen]) (Nat.le_trans (by omega : xs.length ≤ 100) (by decide)) (fun i x d H2 C hx hd s2 c => ?_) (fun H2 acc s2 hA tA => ?_)
    · obtain ⟨d', e1, t2⟩ := tb.get hx
      obtain ⟨p, ep⟩ : ∃ p, l[i]? = some p := ⟨l[i]'(by rw [← hlen]; exact (List.getElem?_eq_some_iff.mp hx).1), List.getElem?_eq_getElem _⟩
      rw [List.getElem?_map, ep] at e1 hd
      cases e1
      cases hd
      obtain ⟨a2, y0, y1, rfl, f2, u0, u1⟩ := (t2.mono s2.fs).i2
      obtain rfl := u0.strI
      have hp := List.mem_of_getElem? ep
      refine ⟨a2, _, rfl, f2.sq, rfl, _, _, rfl, _, _, rfl, rfl, rfl, ?_⟩
      refine ⟨_, rfl, _, rfl, _, rfl, _, rfl, y1, dv, ds, p.2, ρ, S, rfl, Nat.le_trans (hdep p hp) hd', hlq p hp, hsafe p hp, u1, hE.mono (s1.trans s2) (Nat.le_succ n), hSt.mono (s1.trans s2), fun r H3 s3 t3 => ⟨two_le, fun p' o hp no => ?_⟩⟩
      exact c _ _ (s3.trans (same_new hp _)) (.new hp no (.cons (.str p.1) (.cons t3 .nil)))
    · refine ⟨D, acc, rfl, SqL.of hA, fun p o hp no => ⟨two_le, fun p2 o2 hp2 no2 => ?_⟩⟩
      refine qq _ _ (s1.trans (s2.trans ((same_new hp _).trans (same_new hp2 _)))) ?_
      refine .new hp2 no2 (.cons (.str _) (.cons ?_ .nil))
      rw [eval_ofF, Val.enc_ofF, List.map_map]
      exact .new hp no tA
  | att x b =>
    obtain ⟨t, x0, x1, x2, rfl, f0, t0, t1, t2⟩ := hT.i3
    obtain rfl := t0.strI
    obtain rfl := t1.strI
    obtain ⟨hQb, hSb, l, el, hn, hm, hl⟩ := hS
    refine ⟨_, rfl, t, _, 0, _, rfl, rfl, f0.sq, rfl, ?_⟩
    refine ⟨_, rfl, _, rfl, fun H1 s1 => iteF ?_⟩
    refine ⟨_, rfl, rfl, _, rfl, iteF ?_⟩
    refine ⟨_, rfl, rfl, _, rfl, iteF ?_⟩
    refine ⟨_, rfl, rfl, _, rfl, iteF ?_⟩
    refine ⟨_, rfl, rfl, _, rfl, iteT ?_⟩
    refine ⟨_, rfl, t, _, 2, _, rfl, rfl, (f0.mono s1.fs).sq, rfl, _, rfl, _, rfl, ?_⟩
    refine ⟨x2, dv, ds, b, ρ, S, rfl, Nat.le_of_succ_le_succ hd, hQb, hSb, t2.mono s1.fs, hE.mono s1 (Nat.le_succ n), hSt.mono s1, fun r2 H2 t2' u2 => ?_⟩
    have s2 := s1.trans t2'
    rw [el] at u2
    obtain ⟨ra, y0, y1, rfl, g0, v0, v1⟩ := u2.i2
    rw [Val.enc_ofF] at v1
    obtain ⟨rb, xs, rfl, g1, v2⟩ := v1.tupI
    obtain ⟨ps, kvs, rfl, hpk, hks, hkv⟩ := fields_kv (K := K) v2
    refine ⟨ra, _, 1, _, rfl, rfl, g0.sq, rfl, ?_⟩
    refine ⟨rb, ps, kvs, rfl, g1, hpk, fun D hD => ?_⟩
    have s3 := s2.trans (same_new hD (.dK (mergeK [] kvs)))
    obtain ⟨u, hu1, hu2⟩ := hkv _ (getF_mem hm)
    have hv : valV (mergeK [] kvs) (Sum.inr x) = some u := valV_merge_in kvs [] (by
      rw [hks, show (fun p : Str × Val => (Sum.inr p.1 : Key)) = (Sum.inr ∘ fun p => p.1) from rfl, ← List.map_map]
      exact List.Pairwise.map _ (fun a b h z => h (Sum.inr.inj z)) hn) hu1
    refine ⟨_, rfl, t, _, 1, _, rfl, rfl, (f0.mono s3.fs).sq, rfl, D, u, rfl, .inl ⟨_, Sum.inr x, .inl upd_same, rfl, hv.symm⟩, qq _ _ s3 ?_⟩
    rw [show eval (.att x b) ρ S = getF x (eval b ρ S).fields from rfl, el, show (Val.row (.ofF l)).fields = l from Val.spF_ofF l]
    exact hu2.mono (same_new hD _).fs
  | for_ x b c =>
    have hT0 := hT
    obtain ⟨t, x0, x1, x2, x3, rfl, f0, t0, t1, t2, t3⟩ := hT.i4
    obtain rfl := t0.strI
    refine ⟨_, rfl, t, _, 0, _, rfl, rfl, f0.sq, rfl, ?_⟩
    refine ⟨_, rfl, _, rfl, fun H1 s1 => iteF ?_⟩
    refine ⟨_, rfl, rfl, _, rfl, iteF ?_⟩
    refine ⟨_, rfl, rfl, _, rfl, iteF ?_⟩
    refine ⟨_, rfl, rfl, _, rfl, iteF ?_⟩
    refine ⟨_, rfl, rfl, _, rfl, iteF ?_⟩
    refine ⟨_, rfl, _, rfl, fun H2 t2' => iteT ?_⟩
    have s2 := s1.trans t2'
    refine ⟨_, rfl, _, rfl, _, rfl, ?_⟩
    exact ⟨_, dv, ds, .for_ x b c, ρ, S, rfl, hd, ⟨x, b, c, .inl rfl⟩, hS, hT0.mono s2.fs, hE.mono s2 (Nat.le_refl _), hSt.mono s2, fun r H3 s3 u3 => qq r H3 (s2.trans s3) u3⟩
  | let_ x b c =>
    have hT0 := hT
    obtain ⟨t, x0, x1, x2, x3, rfl, f0, t0, t1, t2, t3⟩ := hT.i4
    obtain rfl := t0.strI
    refine ⟨_, rfl, t, _, 0, _, rfl, rfl, f0.sq, rfl, ?_⟩
    refine ⟨_, rfl, _, rfl, fun H1 s1 => iteF ?_⟩
    refine ⟨_, rfl, rfl, _, rfl, iteF ?_⟩
    refine ⟨_, rfl, rfl, _, rfl, iteF ?_⟩
    refine ⟨_, rfl, rfl, _, rfl, iteF ?_⟩
    refine ⟨_, rfl, rfl, _, rfl, iteF ?_⟩
    refine ⟨_, rfl, _, rfl, fun H2 t2' => iteT ?_⟩
    have s2 := s1.trans t2'
    refine ⟨_, rfl, _, rfl, _, rfl, ?_⟩
    exact ⟨_, dv, ds, .let_ x b c, ρ, S, rfl, hd, ⟨x, b, c, .inr rfl⟩, hS, hT0.mono s2.fs, hE.mono s2 (Nat.le_refl _), hSt.mono s2, fun r H3 s3 u3 => qq r H3 (s2.trans s3) u3⟩
  | add b c =>
    obtain ⟨t, x0, x1, x2, rfl, f0, t0, t1, t2⟩ := hT.i3
    obtain rfl := t0.strI
    obtain ⟨hQb, hQc, hSb, hSc, i, j, eb, ec, hm⟩ := hS
    have hd' : b.dep ≤ n ∧ c.dep ≤ n := by simp only [N97.Q.dep] at hd; omega
    refine ⟨_, rfl, t, _, 0, _, rfl, rfl, f0.sq, rfl, ?_⟩
    refine ⟨_, rfl, _, rfl, fun H1 s1 => iteF ?_⟩
    refine ⟨_, rfl, rfl, _, rfl, iteF ?_⟩
    refine ⟨_, rfl, rfl, _, rfl, iteF ?_⟩
    refine ⟨_, rfl, rfl, _, rfl, iteF ?_⟩
    refine ⟨_, rfl, rfl, _, rfl, iteF ?_⟩
    refine ⟨_, rfl, _, rfl, fun H2 t2' => iteF ?_⟩
    have s2 := s1.trans t2'
    refine ⟨_, rfl, _, rfl, fun H3 t3' => iteT ?_⟩
    have s3 := s2.trans t3'
    refine ⟨_, rfl, t, _, 1, _, rfl, rfl, (f0.mono s3.fs).sq, rfl, _, rfl, _, rfl, ?_⟩
    refine ⟨x1, dv, ds, b, ρ, S, rfl, hd'.1, hQb, hSb, t1.mono s3.fs, hE.mono s3 (Nat.le_succ n), hSt.mono s3, fun r4 H4 t4' u4 => ?_⟩
    have s4 := s3.trans t4'
    rw [eb] at u4
    obtain ⟨p1, y0, y1, rfl, g1, _, w1⟩ := u4.i2
    obtain rfl := w1.intI
    refine ⟨p1, _, 1, _, rfl, rfl, g1.sq, rfl, ?_⟩
    refine ⟨_, rfl, t, _, 2, _, rfl, rfl, (f0.mono s4.fs).sq, rfl, _, rfl, _, rfl, ?_⟩
    refine ⟨x2, dv, ds, c, ρ, S, rfl, hd'.2, hQc, hSc, t2.mono s4.fs, hE.mono s4 (Nat.le_succ n), hSt.mono s4, fun r5 H5 t5' u5 => ?_⟩
    have s5 := s4.trans t5'
    rw [ec] at u5
    obtain ⟨p2, z0, z1, rfl, g2, _, w2⟩ := u5.i2
    obtain rfl := w2.intI
    refine ⟨p2, _, 1, _, rfl, rfl, g2.sq, rfl, ?_⟩
    refine ⟨_, rfl, _, rfl, i, j, rfl, rfl, _, rfl, _, rfl, i, j, rfl, rfl, hm, two_le, fun L hL => ?_⟩
    have s6 := s5.trans (same_new hL (.lst [.int (i + j), .int (i * j)]))
    refine ⟨_, rfl, rfl, .inr ⟨_, rfl, ?_⟩⟩
    refine ⟨L, _, _, _, rfl, rfl, SqL.of upd_same, rfl, two_le, fun p o hp no => ?_⟩
    refine qq _ _ (s6.trans (same_new hp _)) ?_
    refine .new hp no (.cons (.str _) (.cons ?_ .nil))
    rw [eb, ec]
    exact .int _
  | mul b c =>
    obtain ⟨t, x0, x1, x2, rfl, f0, t0, t1, t2⟩ := hT.i3
    obtain rfl := t0.strI
    obtain ⟨hQb, hQc, hSb, hSc, i, j, eb, ec, hm⟩ := hS
    have hd' : b.dep ≤ n ∧ c.dep ≤ n := by simp only [N97.Q.dep] at hd; omega
    refine ⟨_, rfl, t, _, 0, _, rfl, rfl, f0.sq, rfl, ?_⟩
    refine ⟨_, rfl, _, rfl, fun H1 s1 => iteF ?_⟩
    refine ⟨_, rfl, rfl, _, rfl, iteF ?_⟩
    refine ⟨_, rfl, rfl, _, rfl, iteF ?_⟩
    refine ⟨_, rfl, rfl, _, rfl, iteF ?_⟩
    refine ⟨_, rfl, rfl, _, rfl, iteF ?_⟩
    refine ⟨_, rfl, _, rfl, fun H2 t2' => iteF ?_⟩
    have s2 := s1.trans t2'
    refine ⟨_, rfl, _, rfl, fun H3 t3' => iteT ?_⟩
    have s3 := s2.trans t3'
    refine ⟨_, rfl, t, _, 1, _, rfl, rfl, (f0.mono s3.fs).sq, rfl, _, rfl, _, rfl, ?_⟩
    refine ⟨x1, dv, ds, b, ρ, S, rfl, hd'.1, hQb, hSb, t1.mono s3.fs, hE.mono s3 (Nat.le_succ n), hSt.mono s3, fun r4 H4 t4' u4 => ?_⟩
    have s4 := s3.trans t4'
    rw [eb] at u4
    obtain ⟨p1, y0, y1, rfl, g1, _, w1⟩ := u4.i2
    obtain rfl := w1.intI
    refine ⟨p1, _, 1, _, rfl, rfl, g1.sq, rfl, ?_⟩
    refine ⟨_, rfl, t, _, 2, _, rfl, rfl, (f0.mono s4.fs).sq, rfl, _, rfl, _, rfl, ?_⟩
    refine ⟨x2, dv, ds, c, ρ, S, rfl, hd'.2, hQc, hSc, t2.mono s4.fs, hE.mono s4 (Nat.le_succ n), hSt.mono s4, fun r5 H5 t5' u5 => ?_⟩
    have s5 := s4.trans t5'
    rw [ec] at u5
    obtain ⟨p2, z0, z1, rfl, g2, _, w2⟩ := u5.i2
    obtain rfl := w2.intI
    refine ⟨p2, _, 1, _, rfl, rfl, g2.sq, rfl, ?_⟩
    refine ⟨_, rfl, _, rfl, i, j, rfl, rfl, _, rfl, _, rfl, i, j, rfl, rfl, hm, two_le, fun L hL => ?_⟩
    have s6 := s5.trans (same_new hL (.lst [.int (i + j), .int (i * j)]))
    refine ⟨_, rfl, rfl, .inr ⟨_, rfl, ?_⟩⟩
    refine ⟨L, _, _, _, rfl, rfl, SqL.of upd_same, rfl, two_le, fun p o hp no => ?_⟩
    refine qq _ _ (s6.trans (same_new hp _)) ?_
    refine .new hp no (.cons (.str _) (.cons ?_ .nil))
    rw [eb, ec]
    exact .int _
  | none_ k =>
    obtain ⟨t, x0, x1, rfl, f0, t0, t1⟩ := hT.i2
    obtain rfl := t0.strI
    refine ⟨_, rfl, t, _, 0, _, rfl, rfl, f0.sq, rfl, ?_⟩
    refine ⟨_, rfl, _, rfl, fun H1 s1 => iteF ?_⟩
    refine ⟨_, rfl, rfl, _, rfl, iteF ?_⟩
    refine ⟨_, rfl, rfl, _, rfl, iteF ?_⟩
    refine ⟨_, rfl, rfl, _, rfl, iteF ?_⟩
    refine ⟨_, rfl, rfl, _, rfl, iteF ?_⟩
    refine ⟨_, rfl, _, rfl, fun H2 t2' => iteF ?_⟩
    have s2 := s1.trans t2'
    refine ⟨_, rfl, _, rfl, fun H3 t3' => iteF ?_⟩
    have s3 := s2.trans t3'
    refine ⟨Nat.zero_le _, fun co hco => ?_⟩
    have s4 := s3.trans (same_new hco (.lst []))
    refine ⟨_, rfl, rfl, _, rfl, iteF ?_⟩
    refine ⟨_, rfl, rfl, _, rfl, iteF ?_⟩
    refine ⟨_, rfl, rfl, _, rfl, iteF ?_⟩
    refine ⟨_, rfl, rfl, _, rfl, iteF ?_⟩
    refine ⟨_, rfl, co, .num, [], rfl, ⟨[], upd_same, .nil⟩, by decide, (fun p hp => nomatch hp), by decide, fun r H5 s5 u5 => qq r H5 (s4.trans s5) u5⟩
  | one b =>
    obtain ⟨t, x0, x1, rfl, f0, t0, t1⟩ := hT.i2
    obtain rfl := t0.strI
    obtain ⟨hQb, hSb, k, hk, hK⟩ := hS
    refine ⟨_, rfl, t, _, 0, _, rfl, rfl, f0.sq, rfl, ?_⟩
    refine ⟨_, rfl, _, rfl, fun H1 s1 => iteF ?_⟩
    refine ⟨_, rfl, rfl, _, rfl, iteF ?_⟩
    refine ⟨_, rfl, rfl, _, rfl, iteF ?_⟩
    refine ⟨_, rfl, rfl, _, rfl, iteF ?_⟩
    refine ⟨_, rfl, rfl, _, rfl, iteF ?_⟩
    refine ⟨_, rfl, _, rfl, fun H2 t2' => iteF ?_⟩
    have s2 := s1.trans t2'
    refine ⟨_, rfl, _, rfl, fun H3 t3' => iteF ?_⟩
    have s3 := s2.trans t3'
    refine ⟨Nat.zero_le _, fun co hco => ?_⟩
    have s4 := s3.trans (same_new hco (.lst []))
    have hcn : H co = none := by
      cases e : H co with
      | none => rfl
      | some o => have := s3 _ _ e; rw [hco] at this; cases this
    refine ⟨_, rfl, rfl, _, rfl, iteT ?_⟩
    refine ⟨_, rfl, .inl ⟨rfl, _, .inl (.inl upd_same)⟩, ?_⟩
    refine ⟨_, rfl, t, _, 1, _, rfl, rfl, (f0.mono s4.fs).sq, rfl, _, rfl, _, rfl, ?_⟩
    refine ⟨x1, dv, ds, b, ρ, S, rfl, Nat.le_of_succ_le_succ hd, hQb, hSb, t1.mono s4.fs, hE.mono s4 (Nat.le_succ n), hSt.mono s4, fun r5 H5 t5' u5 => ?_⟩
    have s5 := s4.trans t5'
    refine ⟨two_le, fun p o hp no => ?_⟩
    have hF : (upd H5 p (.frz o (.tup [r5, .int 1]))) co = some (.lst []) := same_new hp _ _ _ (t5' _ _ upd_same)
    have s6 := s5.trans (same_new hp (.frz o (.tup [r5, .int 1])))
    refine ⟨co, _, _, rfl, rfl, hF, by rw [sizeLine_eq]; decide, ?_⟩
    have s7 : Same H (upd (upd H5 p (.frz o (.tup [r5, .int 1]))) co (.lst ([] ++ [V.ref p]))) := fun b o e => by rw [upd_ne (ne_of_none e hcn)]; exact s6 _ _ e
    refine ⟨_, rfl, co, k, [(eval b ρ S, 1)], rfl, ⟨_, upd_same, ?_⟩, hk, (fun p hp => by obtain rfl := List.mem_singleton.mp hp; exact hK), by show 1 ≤ 16777216; decide, fun r H8 s8 u8 => qq r H8 (s7.trans s8) u8⟩
    refine .cons (Tp.mono ?_ (fs_lst hF)) .nil
    exact .new hp no (.cons u5 (.cons (.int 1) .nil))
  | both b c =>
    obtain ⟨t, x0, x1, x2, rfl, f0, t0, t1, t2⟩ := hT.i3
    obtain rfl := t0.strI
    obtain ⟨hQb, hQc, hSb, hSc, k, la, lb, hk, eb, ec, ha, hb, hz⟩ := hS
    have hd' : b.dep ≤ n ∧ c.dep ≤ n := by simp only [N97.Q.dep] at hd; omega
    refine ⟨_, rfl, t, _, 0, _, rfl, rfl, f0.sq, rfl, ?_⟩
    refine ⟨_, rfl, _, rfl, fun H1 s1 => iteF ?_⟩
    refine ⟨_, rfl, rfl, _, rfl, iteF ?_⟩
    refine ⟨_, rfl, rfl, _, rfl, iteF ?_⟩
    refine ⟨_, rfl, rfl, _, rfl, iteF ?_⟩
    refine ⟨_, rfl, rfl, _, rfl, iteF ?_⟩
    refine ⟨_, rfl, _, rfl, fun H2 t2' => iteF ?_⟩
    have s2 := s1.trans t2'
    refine ⟨_, rfl, _, rfl, fun H3 t3' => iteF ?_⟩
    have s3 := s2.trans t3'
    refine ⟨Nat.zero_le _, fun co hco => ?_⟩
    have s4 := s3.trans (same_new hco (.lst []))
    have hcn : H co = none := by
      cases e : H co with
      | none => rfl
      | some o => have := s3 _ _ e; rw [hco] at this; cases this
    refine ⟨_, rfl, rfl, _, rfl, iteF ?_⟩
    refine ⟨_, rfl, rfl, _, rfl, iteT ?_⟩
    refine ⟨_, rfl, _, rfl, t, _, 1, _, rfl, rfl, (f0.mono s4.fs).sq, rfl, _, rfl, _, rfl, ?_⟩
    refine ⟨x1, dv, ds, b, ρ, S, rfl, hd'.1, hQb, hSb, t1.mono s4.fs, hE.mono s4 (Nat.le_succ n), hSt.mono s4, fun r5 H5 t5' u5 => ?_⟩
    have s5 := s4.trans t5'
    rw [eb] at u5
    refine ⟨co, r5, 1, [], la, rfl, ⟨[], t5' _ _ upd_same, .nil⟩, u5, by rw [List.length_nil]; omega, fun p hp => (ha p hp).2, fun H6 b6 l6 => ?_⟩
    have s6 : Same H H6 := fun b o e => b6 b o (ne_of_none e hcn) (s5 _ _ e)
    refine ⟨_, rfl, _, rfl, t, _, 2, _, rfl, rfl, (f0.mono s6.fs).sq, rfl, _, rfl, _, rfl, ?_⟩
    refine ⟨x2, dv, ds, c, ρ, S, rfl, hd'.2, hQc, hSc, t2.mono s6.fs, hE.mono s6 (Nat.le_succ n), hSt.mono s6, fun r7 H7 t7' u7 => ?_⟩
    rw [ec] at u7
    refine ⟨co, r7, 1, _, lb, rfl, l6.mono t7', u7, by rw [List.nil_append, scale_len]; omega, fun p hp => (hb p hp).2, fun H8 b8 l8 => ?_⟩
    have s8 : Same H H8 := fun b o e => b8 b o (ne_of_none e hcn) (t7' _ _ (s6 _ _ e))
    refine ⟨_, rfl, co, k, _, rfl, l8, hk, fun p hp => ?_, by rw [List.nil_append, List.length_append, scale_len, scale_len]; omega, fun r H9 s9 u9 => qq r H9 (s8.trans s9) ?_⟩
    · rcases List.mem_append.mp hp with hp | hp
      · exact scale_kind (fun p hp => (ha p hp).1) p hp
      · exact scale_kind (fun p hp => (hb p hp).1) p hp
    · rw [show eval (.both b c) ρ S = mkBag (scale 1 (eval b ρ S).rows ++ scale 1 (eval c ρ S).rows) from rfl, eb, ec, show (Val.bag (.ofR la)).rows = la from Val.spR_ofR la, show (Val.bag (.ofR lb)).rows = lb from Val.spR_ofR lb]
      exact u9
  | times m b =>
    obtain ⟨t, x0, x1, x2, rfl, f0, t0, t1, t2⟩ := hT.i3
    obtain rfl := t0.strI
    obtain rfl := t1.intI
    obtain ⟨hQb, hSb, _, k, la, hk, eb, ha, hz⟩ := hS
    refine ⟨_, rfl, t, _, 0, _, rfl, rfl, f0.sq, rfl, ?_⟩
    refine ⟨_, rfl, _, rfl, fun H1 s1 => iteF ?_⟩
    refine ⟨_, rfl, rfl, _, rfl, iteF ?_⟩
    refine ⟨_, rfl, rfl, _, rfl, iteF ?_⟩
    refine ⟨_, rfl, rfl, _, rfl, iteF ?_⟩
    refine ⟨_, rfl, rfl, _, rfl, iteF ?_⟩
    refine ⟨_, rfl, _, rfl, fun H2 t2' => iteF ?_⟩
    have s2 := s1.trans t2'
    refine ⟨_, rfl, _, rfl, fun H3 t3' => iteF ?_⟩
    have s3 := s2.trans t3'
    refine ⟨Nat.zero_le _, fun co hco => ?_⟩
    have s4 := s3.trans (same_new hco (.lst []))
    have hcn : H co = none := by
      cases e : H co with
      | none => rfl
      | some o => have := s3 _ _ e; rw [hco] at this; cases this
    refine ⟨_, rfl, rfl, _, rfl, iteF ?_⟩
    refine ⟨_, rfl, rfl, _, rfl, iteF ?_⟩
    refine ⟨_, rfl, rfl, _, rfl, iteT ?_⟩
    refine ⟨_, rfl, _, rfl, t, _, 2, _, rfl, rfl, (f0.mono s4.fs).sq, rfl, _, rfl, _, rfl, ?_⟩
    refine ⟨x2, dv, ds, b, ρ, S, rfl, Nat.le_of_succ_le_succ hd, hQb, hSb, t2.mono s4.fs, hE.mono s4 (Nat.le_succ n), hSt.mono s4, fun r5 H5 t5' u5 => ?_⟩
    have s5 := s4.trans t5'
    rw [eb] at u5
    refine ⟨_, rfl, t, _, 1, _, rfl, rfl, (f0.mono s5.fs).sq, rfl, ?_⟩
    refine ⟨co, r5, m, [], la, rfl, ⟨[], t5' _ _ upd_same, .nil⟩, u5, by rw [List.length_nil]; omega, fun p hp => (ha p hp).2, fun H6 b6 l6 => ?_⟩
    have s6 : Same H H6 := fun b o e => b6 b o (ne_of_none e hcn) (s5 _ _ e)
    refine ⟨_, rfl, co, k, _, rfl, l6, hk, scale_kind fun p hp => (ha p hp).1, by rw [List.nil_append, scale_len]; omega, fun r H9 s9 u9 => qq r H9 (s6.trans s9) ?_⟩
    rw [show eval (.times m b) ρ S = mkBag (scale m (eval b ρ S).rows) from rfl, eb, show (Val.bag (.ofR la)).rows = la from Val.spR_ofR la]
    exact u9
  | when_ b c =>
    obtain ⟨t, x0, x1, x2, rfl, f0, t0, t1, t2⟩ := hT.i3
    obtain rfl := t0.strI
    obtain ⟨hCb, hQc, hSb, hSc⟩ := hS
    have hd' : b.dep ≤ n ∧ c.dep ≤ n := by simp only [N97.Q.dep] at hd; omega
    refine ⟨_, rfl, t, _, 0, _, rfl, rfl, f0.sq, rfl, ?_⟩
    refine ⟨_, rfl, _, rfl, fun H1 s1 => iteF ?_⟩
    refine ⟨_, rfl, rfl, _, rfl, iteF ?_⟩
    refine ⟨_, rfl, rfl, _, rfl, iteF ?_⟩
    refine ⟨_, rfl, rfl, _, rfl, iteF ?_⟩
    refine ⟨_, rfl, rfl, _, rfl, iteF ?_⟩
    refine ⟨_, rfl, _, rfl, fun H2 t2' => iteF ?_⟩
    have s2 := s1.trans t2'
    refine ⟨_, rfl, _, rfl, fun H3 t3' => iteF ?_⟩
    have s3 := s2.trans t3'
    refine ⟨Nat.zero_le _, fun co hco => ?_⟩
    have s4 := s3.trans (same_new hco (.lst []))
    refine ⟨_, rfl, rfl, _, rfl, iteF ?_⟩
    refine ⟨_, rfl, rfl, _, rfl, iteF ?_⟩
    refine ⟨_, rfl, rfl, _, rfl, iteF ?_⟩
    refine ⟨_, rfl, rfl, _, rfl, iteT ?_⟩
    refine ⟨_, rfl, t, _, 1, _, rfl, rfl, (f0.mono s4.fs).sq, rfl, _, rfl, _, rfl, ?_⟩
    refine ⟨x1, dv, ds, b, ρ, S, rfl, Nat.le_succ_of_le hd'.1, hCb, hSb, t1.mono s4.fs, hE.mono s4 (Nat.le_refl _), hSt.mono s4, fun H5 t5' => ⟨_, rfl, ?_⟩⟩
    have s5 := s4.trans t5'
    have e : eval (.when_ b c) ρ S = if isT (eval b ρ S) = true then eval c ρ S else mkBag [] := rfl
    cases hb : isT (eval b ρ S) with
    | true =>
      rw [e, hb, if_pos rfl] at qq
      refine iteT ?_
      refine ⟨_, rfl, t, _, 2, _, rfl, rfl, (f0.mono s5.fs).sq, rfl, _, rfl, _, rfl, ?_⟩
      exact ⟨x2, dv, ds, c, ρ, S, rfl, hd'.2, hQc, hSc hb, t2.mono s5.fs, hE.mono s5 (Nat.le_succ n), hSt.mono s5, fun r6 H6 s6 u6 => qq r6 H6 (s5.trans s6) u6⟩
    | false =>
      rw [e, hb, if_neg Bool.false_ne_true] at qq
      refine iteF ?_
      exact ⟨_, rfl, co, .num, [], rfl, ⟨[], t5' _ _ upd_same, .nil⟩, by decide, (fun p hp => nomatch hp), by decide, fun r H6 s6 u6 => qq r H6 (s5.trans s6) u6⟩
  | _ => exact absurd hQ (by simp [N97.Q.isQ])
theorem dep_pos (q : N97.Q) (h : q.isQ = true ∨ q.isC = true) : 0 < q.dep := by
  cases q <;> first | exact Nat.succ_pos _ | exact absurd h (by simp [N97.Q.isQ, N97.Q.isC])
theorem ok_ev {fA fT fB fG fD : Addr} {fdA fdT fdB fdG fdD : FuncData} (FA : Fun K "_law_answer" "_law_answer" sAns fA fdA) (FT : Fun K "_law_truth" "_law_truth" sTru fT fdT) (FB : Fun K "_law_bound" "_law_bound" sBnd fB fdB)
    (bA : Binds K fdA ["asked", "values", "store"] []) (mA : mg "_law_answer" = some (.ref fA))
    (bT : Binds K fdT ["claim", "values", "store"] []) (mT : mg "_law_truth" = some (.ref fT))
    (bB : Binds K fdB ["asked", "values", "store"] []) (mB : mg "_law_bound" = some (.ref fB))
    (GG : FnOk P w K mg base CX0 9 fG fdG ["counts"] spBag) (bG : Binds K fdG ["counts"] []) (kG : PySem.W.keepIn K (.ref fG) = true) (mG : mg "_law_bag" = some (.ref fG))
    (GD : FnOk P w K mg base CX0 1 fD fdD ["counts", "bag", "many"] spAdd) (bD : Binds K fdD ["counts", "bag", "many"] []) (kD : PySem.W.keepIn K (.ref fD) = true) (mD : mg "_law_add" = some (.ref fD))
    (md : mg "dict" = none) (mt : mg "tuple" = none) (mi : mg "int" = none) :
    ∀ n, FnOk P w K mg base CX0 (2 * n + 10) fA fdA ["asked", "values", "store"] (spAns n) ∧ FnOk P w K mg base CX0 (2 * n + 10) fT fdT ["claim", "values", "store"] (spTru n)
  | 0 => by
    refine ⟨⟨fun vs H Q E h => ?_, fun A outer s H args us vs Q E _ _ _ _ h => ?_⟩, ⟨fun vs H Q E h => ?_, fun A outer s H args us vs Q E _ _ _ _ h => ?_⟩⟩
    all_goals
      obtain ⟨_, _, _, q, _, _, _, h1, h2, _⟩ := h
      first | exact absurd (dep_pos q (.inl h2)) (by omega) | exact absurd (dep_pos q (.inr h2)) (by omega)
  | n + 1 => by
    obtain ⟨GA, GT⟩ := ok_ev FA FT FB bA mA bT mT bB mB GG bG kG mG GD bD kD mD md mt mi n
    have GT1 := ok_tru1 FT GT bT mT GA bA FA.kp mA
    have GB1 := ok_bnd1 FB GA bA FA.kp mA GG bG kG mG GD bD kD mD md
    exact ⟨ok_ans1 FA GA bA mA GT1 bT FT.kp mT GB1 bB FB.kp mB GG bG kG mG GD bD kD mD md mt mi, GT1.mono (by omega)⟩
end
end N97

/-! KaG1 -/
set_option maxRecDepth 100000
namespace N97
open PySem PySem.W PyProof.Rows

/-! ### what the asking yields -/
abbrev Ctx := List (Str × Kd)
def look (x : Str) : Ctx → Option Kd
  | [] => none
  | p :: r => if p.1 = x then some p.2 else look x r
inductive Mode where
  | ask (k : Kd) | sml (k : Kd) | ovr (k : Kd) | clm | arm (k : Kd)
def Held (Γ : Ctx) (k : Kd) (q : Q) : Prop := (∃ x, look x Γ = some k ∧ q = .var x) ∨ ∃ x r f, look x Γ = some r ∧ (f, k) ∈ r.fields ∧ q = .att f (.var x)
inductive Gen : Mode → Ctx → Nat → Q → Prop
  | held {Γ f k q} : Held Γ k q → Gen (.sml k) Γ f q
  | sbag {Γ f k q} : Gen (.ask (.bag k)) Γ (f - 1) q → Gen (.sml (.bag k)) Γ f q
  | slvl {Γ f q1 q2} : Gen (.ask .word) Γ (f - 1) q1 → Gen (.ask .num) Γ (f - 1) q2 → Gen (.sml .level) Γ f (.row (.ofF [("b", q1), ("r", q2)]))
  | sdeep {Γ f q1 q2 q3 q4} : Gen (.ask .num) Γ (f - 1) q1 → Gen (.ask .word) Γ (f - 1) q2 → Gen (.ask (.bag .num)) Γ (f - 1) q3 → Gen (.ask .word) Γ (f - 1) q4 →
      Gen (.sml .deep) Γ f (.row (.ofF [("a", q1), ("b", q2), ("t", q3), ("z", q4)]))
  | sadd {Γ f a b} : Gen (.sml .num) Γ f a → Gen (.sml .num) Γ f b → Gen (.sml .num) Γ (f + 1) (.add a b)
  | smul {Γ f a b} : Gen (.sml .num) Γ f a → Gen (.sml .num) Γ f b → Gen (.sml .num) Γ (f + 1) (.mul a b)
  | snum {Γ f n} : n.natAbs < 2 ^ 100 → Gen (.sml .num) Γ f (.num n)
  | sword {Γ f s} : Gen (.sml .word) Γ f (.word s)
  | arm {Γ k a} : k = .num ∨ k = .word → Gen (.sml k) Γ 0 a → Gen (.arm k) Γ 0 a
  | armA {Γ a} : Gen (.sml .num) Γ 0 a → Gen (.arm .num) Γ 0 (.att "a" (.row (.ofF [("a", a), ("b", .table "t")])))
  | armL {Γ a} : Gen (.sml .num) Γ 0 a → Gen (.arm .num) Γ 0 (.let_ "w" (.table "u") a)
  | cnot {Γ f a} : Gen .clm Γ f a → Gen .clm Γ (f + 1) (.not_ a)
  | cand {Γ f a b} : Gen .clm Γ f a → Gen .clm Γ f b → Gen .clm Γ (f + 1) (.and_ a b)
  | cor {Γ f a b} : Gen .clm Γ f a → Gen .clm Γ f b → Gen .clm Γ (f + 1) (.or_ a b)
  | csame {Γ f k a b} : k = .num ∨ k = .word → Gen (.arm k) Γ 0 a → Gen (.sml k) Γ 0 b → Gen .clm Γ f (.same a b)
  | cunder {Γ f a b} : Gen (.arm .num) Γ 0 a → Gen (.sml .num) Γ 0 b → Gen .clm Γ f (.under a b)
  | ovar {Γ f k x} : look x Γ = some (.bag k) → Gen (.ovr k) Γ f (.var x)
  | oat {Γ f x} : look x Γ = some .deep → Gen (.ovr .num) Γ f (.att "t" (.var x))
  | otab {Γ f k t} : kdOf t = some k → Gen (.ovr k) Γ f (.table t)
  | oask {Γ f k t q} : kdOf t = some k → Gen (.ask (.bag k)) Γ f q → Gen (.ovr k) Γ (f + 1) q
  | asml {Γ f k q} : (∀ k', k ≠ .bag k') → Gen (.sml k) Γ f q → Gen (.ask k) Γ f q
  | aheld {Γ f k q} : Held Γ (.bag k) q → Gen (.ask (.bag k)) Γ f q
  | atab {Γ f k t} : kdOf t = some k → Gen (.ask (.bag k)) Γ f (.table t)
  | aone0 {Γ f k q} : Gen (.sml k) Γ 0 q → Gen (.ask (.bag k)) Γ f (.one q)
  | anone {Γ f k} : Gen (.ask (.bag k)) Γ f (.none_ k)
  | aboth {Γ f k a b} : Gen (.ask (.bag k)) Γ f a → Gen (.ask (.bag k)) Γ f b → Gen (.ask (.bag k)) Γ (f + 1) (.both a b)
  | atimes {Γ f k m a} : -3 ≤ m ∧ m ≤ 3 → Gen (.ask (.bag k)) Γ f a → Gen (.ask (.bag k)) Γ (f + 1) (.times m a)
  | awhen {Γ f k t a} : Gen .clm Γ 1 t → Gen (.ask (.bag k)) Γ f a → Gen (.ask (.bag k)) Γ (f + 1) (.when_ t a)
  | aone {Γ f k q} : Gen (.sml k) Γ f q → Gen (.ask (.bag k)) Γ (f + 1) (.one q)
  | ataken {Γ f k q x} {fs : List (Str × Q)} : (x, q) ∈ fs → (∀ p ∈ fs, p.2 = .num 1 ∨ p = (x, q)) → (fs.map (·.1)).Nodup → fs.length ≤ 5 → Gen (.ask (.bag k)) Γ f q → Gen (.ask (.bag k)) Γ (f + 1) (.att x (.row (.ofF fs)))
  | alet {Γ f k o x b c} : o = .num ∨ o = .bag .num → Gen (.ask o) Γ (f - 1) b → Gen (.ask (.bag k)) ((x, o) :: Γ) f c → Gen (.ask (.bag k)) Γ (f + 1) (.let_ x b c)
  | afor {Γ f k o x b c} : Gen (.ovr o) Γ f b → Gen (.ask (.bag k)) ((x, o) :: Γ) f c → Gen (.ask (.bag k)) Γ (f + 1) (.for_ x b c)

/-- a bound of the going down -/
def Mode.lim (f : Nat) : Mode → Nat
  | .ask (.bag k) => 20 * f + (2 * k.rank + 2)
  | .ask k => 20 * f + (2 * k.rank + 2)
  | .sml k => 20 * f + (2 * k.rank + 1)
  | .ovr _ => 20 * f + 2
  | .clm => 2 * f + 6
  | .arm _ => 5
theorem Kd.rank_pos (k : Kd) : 0 < k.rank := by cases k <;> simp [Kd.rank]
theorem kdOf_rank {t : Str} {k : Kd} (h : kdOf t = some k) : k.rank ≤ 4 := by
  unfold kdOf at h
  repeat' split at h
  all_goals first | (cases h; decide) | cases h
theorem fields_rank {k : Kd} {p : Str × Kd} (h : p ∈ k.fields) : p.2.rank < k.rank := by
  cases k with
  | level => simp [Kd.fields] at h; rcases h with rfl | rfl <;> decide
  | deep => simp [Kd.fields] at h; rcases h with rfl | rfl | rfl | rfl <;> decide
  | _ => simp [Kd.fields] at h
theorem Held.dep {Γ : Ctx} {k : Kd} {q : Q} (h : Held Γ k q) : q.dep ≤ 2 := by
  rcases h with ⟨_, _, rfl⟩ | ⟨_, _, _, _, _, rfl⟩ <;> simp [Q.dep]
theorem Held.isQ {Γ : Ctx} {k : Kd} {q : Q} (h : Held Γ k q) : q.isQ = true := by
  rcases h with ⟨_, _, rfl⟩ | ⟨_, _, _, _, _, rfl⟩ <;> rfl
theorem dep_ofF_le {n : Nat} : ∀ {l : List (Str × Q)}, (∀ p ∈ l, p.2.dep ≤ n) → (Q.ofF l).dep ≤ n
  | [], _ => Nat.zero_le _
  | (f, q) :: r, h => Nat.max_le.mpr ⟨h _ (List.mem_cons_self ..), dep_ofF_le fun p hp => h p (List.mem_cons_of_mem _ hp)⟩
theorem Gen.dep {m : Mode} {Γ : Ctx} {f : Nat} {q : Q} (g : Gen m Γ f q) : q.dep ≤ m.lim f := by
  induction g with
  | @held _ f k _ h =>
    have := h.dep
    have := k.rank_pos
    simp only [Mode.lim]
    omega
  | sbag _ ih => simp only [Mode.lim, Kd.rank] at *; omega
  | slvl _ _ i1 i2 => simp only [Mode.lim, Kd.rank, Q.dep, Q.ofF] at *; omega
  | sdeep _ _ _ _ i1 i2 i3 i4 => simp only [Mode.lim, Kd.rank, Q.dep, Q.ofF] at *; omega
  | sadd _ _ i1 i2 => simp only [Mode.lim, Kd.rank, Q.dep] at *; omega
  | smul _ _ i1 i2 => simp only [Mode.lim, Kd.rank, Q.dep] at *; omega
  | snum _ => simp only [Mode.lim, Kd.rank, Q.dep] at *; omega
  | sword => simp only [Mode.lim, Kd.rank, Q.dep] at *; omega
  | arm hk _ ih => rcases hk with rfl | rfl <;> (simp only [Mode.lim, Kd.rank] at *; omega)
  | armA _ ih => simp only [Mode.lim, Kd.rank, Q.dep, Q.ofF] at *; omega
  | armL _ ih => simp only [Mode.lim, Kd.rank, Q.dep] at *; omega
  | cnot _ ih => simp only [Mode.lim, Q.dep] at *; omega
  | cand _ _ i1 i2 => simp only [Mode.lim, Q.dep] at *; omega
  | cor _ _ i1 i2 => simp only [Mode.lim, Q.dep] at *; omega
  | csame hk _ _ i1 i2 => rcases hk with rfl | rfl <;> (simp only [Mode.lim, Kd.rank, Q.dep] at *; omega)
  | cunder _ _ i1 i2 => simp only [Mode.lim, Kd.rank, Q.dep] at *; omega
  | ovar _ => simp only [Mode.lim, Q.dep] at *; omega
  | oat _ => simp only [Mode.lim, Q.dep] at *; omega
  | otab _ => simp only [Mode.lim, Q.dep] at *; omega
  | oask h _ ih =>
    have := kdOf_rank h
    simp only [Mode.lim] at *
    omega
  | @asml _ f k _ h _ ih =>
    cases k with
    | bag k' => exact absurd rfl (h k')
    | _ => simp only [Mode.lim, Kd.rank] at *; omega
  | @aheld _ f k _ h =>
    have := h.dep
    have := k.rank_pos
    simp only [Mode.lim]
    omega
  | atab _ => simp only [Mode.lim, Q.dep] at *; omega
  | aone0 _ ih => simp only [Mode.lim, Q.dep] at *; omega
  | anone => simp only [Mode.lim, Q.dep] at *; omega
  | aboth _ _ i1 i2 => simp only [Mode.lim, Q.dep] at *; omega
  | atimes _ _ ih => simp only [Mode.lim, Q.dep] at *; omega
  | @awhen _ f k _ _ _ _ i1 i2 =>
    have := k.rank_pos
    simp only [Mode.lim, Q.dep] at *
    omega
  | aone _ ih => simp only [Mode.lim, Q.dep] at *; omega
  | @ataken _ f k q x fs _ h2 _ _ _ ih =>
    have h : (Q.ofF fs).dep ≤ 20 * f + (2 * k.rank + 2) := dep_ofF_le fun p hp => by
      rcases h2 p hp with e | e
      · rw [e]
        simp only [Q.dep]
        omega
      · rw [e]
        exact ih
    simp only [Mode.lim, Q.dep] at *
    omega
  | alet ho _ _ i1 i2 => rcases ho with rfl | rfl <;> (simp only [Mode.lim, Kd.rank, Q.dep] at *; omega)
  | afor _ _ i1 i2 => simp only [Mode.lim, Q.dep] at *; omega

/-! ### values of a kind, told with the length of their bags and the size of their numbers -/
def VOk (m b : Nat) : Kd → Val → Prop
  | .num, v => ∃ n : Int, v = .num n ∧ n.natAbs < 2 ^ b
  | .word, v => ∃ s, v = .word s
  | .level, v => ∃ s, ∃ n : Int, v = .row (.ofF [("b", .word s), ("r", .num n)]) ∧ n.natAbs < 2 ^ b
  | .deep, v => ∃ n : Int, ∃ s z, ∃ ts : List (Int × Int), v = .row (.ofF [("a", .num n), ("b", .word s), ("t", .bag (.ofR (ts.map fun p => (.num p.1, p.2)))), ("z", .word z)]) ∧ ts.length ≤ m ∧ n.natAbs < 2 ^ b ∧ ∀ p ∈ ts, p.1.natAbs < 2 ^ b ∧ p.2.natAbs < 2 ^ b
  | .bag k, v => ∃ l : List (Val × Int), v = .bag (.ofR l) ∧ l.length ≤ m ∧ ∀ p ∈ l, VOk m b k p.1 ∧ p.2.natAbs < 2 ^ b
/-- a bag whose own length has another bound -/
def BOk (W m b : Nat) (k : Kd) (v : Val) : Prop := ∃ l : List (Val × Int), v = .bag (.ofR l) ∧ l.length ≤ W ∧ ∀ p ∈ l, VOk m b k p.1 ∧ p.2.natAbs < 2 ^ b
theorem pow_le {b c n : Nat} (h : b ≤ c) (l : n < 2 ^ b) : n < 2 ^ c := Nat.lt_of_lt_of_le l (Nat.pow_le_pow_right (by decide) h)
theorem VOk.mono {m b m' b' : Nat} (hm : m ≤ m') (hb : b ≤ b') : ∀ {k : Kd} {v : Val}, VOk m b k v → VOk m' b' k v
  | .num, _, ⟨n, e, h⟩ => ⟨n, e, pow_le hb h⟩
  | .word, _, h => h
  | .level, _, ⟨s, n, e, h⟩ => ⟨s, n, e, pow_le hb h⟩
  | .deep, _, ⟨n, s, z, ts, e, h1, h2, h3⟩ => ⟨n, s, z, ts, e, Nat.le_trans h1 hm, pow_le hb h2, fun p hp => ⟨pow_le hb (h3 p hp).1, pow_le hb (h3 p hp).2⟩⟩
  | .bag k, _, ⟨l, e, h1, h2⟩ => ⟨l, e, Nat.le_trans h1 hm, fun p hp => ⟨VOk.mono hm hb (h2 p hp).1, pow_le hb (h2 p hp).2⟩⟩
theorem BOk.mono {W m b W' m' b' : Nat} {k : Kd} {v : Val} (hW : W ≤ W') (hm : m ≤ m') (hb : b ≤ b') (h : BOk W m b k v) : BOk W' m' b' k v := by
  obtain ⟨l, e, h1, h2⟩ := h
  exact ⟨l, e, Nat.le_trans h1 hW, fun p hp => ⟨(h2 p hp).1.mono hm hb, pow_le hb (h2 p hp).2⟩⟩
theorem VOk.bag {m b : Nat} {k : Kd} {v : Val} (h : VOk m b (.bag k) v) : BOk m m b k v := h
theorem BOk.vok {m b : Nat} {k : Kd} {v : Val} (h : BOk m m b k v) : VOk m b (.bag k) v := h
theorem VOk.hasK {m b : Nat} (hm : m ≤ 16777216) : ∀ {k : Kd} {v : Val}, VOk m b k v → HasK k v
  | .num, _, ⟨n, e, _⟩ => ⟨n, e⟩
  | .word, _, h => h
  | .level, _, ⟨s, n, e, _⟩ => ⟨s, n, e⟩
  | .deep, _, ⟨n, s, z, ts, e, h1, _⟩ => ⟨n, s, z, ts, Nat.le_trans h1 hm, e⟩
  | .bag k, _, ⟨l, e, h1, h2⟩ => ⟨l, e, Nat.le_trans h1 hm, fun p hp => VOk.hasK hm (h2 p hp).1⟩

/-! ### the bag of a list: its length, its counts -/
def tot (l : List (Val × Int)) : Nat := (l.map fun p => p.2.natAbs).sum
theorem tot_app (a b : List (Val × Int)) : tot (a ++ b) = tot a + tot b := by simp [tot]
theorem tot_perm {a b : List (Val × Int)} (h : a.Perm b) : tot a = tot b := (h.map _).sum_nat
theorem tot_join (acc : List (Val × Int)) (p : Val × Int) : tot (joinR acc p) ≤ tot acc + p.2.natAbs := by
  unfold joinR
  cases h : acc.getLast? with
  | none =>
    show tot (acc ++ [p]) ≤ _
    rw [tot_app]
    simp [tot]
  | some q =>
    obtain ⟨r, rfl⟩ := List.getLast?_eq_some_iff.mp h
    show tot (if q.1 = p.1 then _ else _) ≤ _
    split
    · rw [List.dropLast_concat, tot_app, tot_app]
      have : (p.2 + q.2).natAbs ≤ p.2.natAbs + q.2.natAbs := Int.natAbs_add_le _ _
      simp only [tot, List.map_cons, List.map_nil, List.sum_cons, List.sum_nil]
      omega
    · rw [tot_app, tot_app]
      simp only [tot, List.map_cons, List.map_nil, List.sum_cons, List.sum_nil]
      omega
theorem tot_fold : ∀ (l acc : List (Val × Int)), tot (l.foldl joinR acc) ≤ tot acc + tot l
  | [], acc => by simp [tot]
  | p :: r, acc => by
    rw [List.foldl_cons]
    have h1 := tot_fold r (joinR acc p)
    have h2 := tot_join acc p
    have h3 : tot (p :: r) = p.2.natAbs + tot r := by simp [tot]
    omega
theorem tot_mem {l : List (Val × Int)} {p : Val × Int} (h : p ∈ l) : p.2.natAbs ≤ tot l := by
  induction l with
  | nil => cases h
  | cons q r ih =>
    have h3 : tot (q :: r) = q.2.natAbs + tot r := by simp [tot]
    rcases List.mem_cons.mp h with rfl | h
    · omega
    · have := ih h
      omega
theorem tot_le {l : List (Val × Int)} {B : Nat} (h : ∀ p ∈ l, p.2.natAbs ≤ B) : tot l ≤ l.length * B := by
  induction l with
  | nil => simp [tot]
  | cons q r ih =>
    have h3 : tot (q :: r) = q.2.natAbs + tot r := by simp [tot]
    have h4 := h q (List.mem_cons_self ..)
    have h5 := ih fun p hp => h p (List.mem_cons_of_mem _ hp)
    rw [List.length_cons, Nat.add_mul, Nat.one_mul]
    omega
/-- a bag of rows of a kind -/
theorem mkBag_ok {W m b n e : Nat} {k : Kd} {l : List (Val × Int)} (hl : l.length ≤ n) (hn : n ≤ W) (h24 : n ≤ 2 ^ e) (h : ∀ p ∈ l, VOk m (b + e) k p.1 ∧ p.2.natAbs < 2 ^ b) : BOk W m (b + e) k (mkBag l) := by
  refine ⟨bagL l, rfl, ?_, fun p hp => ?_⟩
  · have := length_bagL l
    omega
  · obtain ⟨q, hq, e1⟩ := mem_bagL hp
    refine ⟨by rw [← e1]; exact (h q hq).1, ?_⟩
    by_cases hl0 : l = []
    · subst hl0; cases hq
    have h1 : p ∈ ((l.mergeSort (PySem.W.dataLe false sdat)).foldl joinR []) := (List.mem_filter.mp hp).1
    have h2 := tot_mem h1
    have h3 := tot_fold (l.mergeSort (PySem.W.dataLe false sdat)) []
    have h4 := tot_perm (List.mergeSort_perm l (PySem.W.dataLe false sdat))
    have h5 : tot l ≤ l.length * (2 ^ b - 1) := tot_le fun p hp => by
      have := (h p hp).2
      omega
    have h6 : l.length * (2 ^ b - 1) ≤ 2 ^ e * (2 ^ b - 1) := Nat.mul_le_mul_right _ (by omega)
    have h7 : 2 ^ e * (2 ^ b - 1) < 2 ^ (b + e) := by
      rw [Nat.pow_add, Nat.mul_comm (2 ^ b)]
      exact Nat.mul_lt_mul_of_pos_left (by have := Nat.two_pow_pos b; omega) (Nat.two_pow_pos e)
    have h8 : tot ([] : List (Val × Int)) = 0 := rfl
    omega
end N97

/-! KaW6 -/
set_option maxRecDepth 100000
set_option maxHeartbeats 8000000
namespace N97
open PySem PySem.Spec PyProof.Rows L2

theorem atI_mem {xs : List V} {r : Int} (h0 : 0 ≤ r) (h1 : r < (xs.length : Int)) : ∃ v, atI xs r = some v ∧ v ∈ xs := by
  obtain ⟨j, rfl⟩ : ∃ j : Nat, r = (j : Int) := ⟨r.toNat, by omega⟩
  have hj : j < xs.length := by omega
  exact ⟨xs[j], atI_nat (List.getElem?_eq_getElem hj), List.getElem_mem hj⟩
/-- all but the seed and a list stand -/
def SX2 (a c : Addr) (H H' : Hp) : Prop := (∀ b o, b ≠ a → b ≠ c → H b = some o → H' b = some o) ∧ Sd H' a
theorem SX2.refl {a c : Addr} {H : Hp} (h : Sd H a) : SX2 a c H H := ⟨fun _ _ _ _ e => e, h⟩
theorem SX2.sx {a c : Addr} {H H1 H2 : Hp} (x : SX2 a c H H1) (y : SX a H1 H2) : SX2 a c H H2 := ⟨fun b o n m e => y.1 b o n (x.1 b o n m e), y.2⟩
theorem SX2.same {a c : Addr} {H H1 H2 : Hp} (x : SX2 a c H H1) (y : Same H1 H2) : SX2 a c H H2 := ⟨fun b o n m e => y b o (x.1 b o n m e), x.2.same y⟩
theorem SX2.upd {a c : Addr} {H H1 : Hp} {o : HO} (x : SX2 a c H H1) (n : a ≠ c) : SX2 a c H (upd H1 c o) := ⟨fun b u h1 h2 e => by rw [upd_ne h2]; exact x.1 b u h1 h2 e, by
  obtain ⟨p, q, r, s, e⟩ := x.2
  exact ⟨p, q, r, s, by rw [upd_ne n]; exact e⟩⟩
theorem SX2.fs {a c : Addr} {H H1 : Hp} {xs : List V} (s : Sd H a) (h : H c = some (.lst xs)) (x : SX2 a c H H1) : FS H H1 := fun b o u e => x.1 b _ (by
  obtain ⟨n, f, c, m, h⟩ := s
  exact ne_of e h (by intro z; cases z)) (ne_of e h (by intro z; cases z)) e
theorem SX2.back {a c : Addr} {H H0 H1 : Hp} (hc : H0 c = none) (s : SX a H0 H) (x : SX2 a c H H1) : SX a H0 H1 := ⟨fun b o h e => x.1 b o h (ne_of_none e hc) (s.1 b o h e), x.2⟩
theorem SX.same2 {a c : Addr} {H H1 : Hp} {o : HO} (x : SX a H H1) (hc : H c = none) (hn : c ≠ a) : SX a H (upd H1 c o) := ⟨fun b u h e => by rw [upd_ne (ne_of_none e hc)]; exact x.1 b u h e, by
  obtain ⟨p, q, r, s, e⟩ := x.2
  exact ⟨p, q, r, s, by rw [upd_ne hn.symm]; exact e⟩⟩
theorem SX.lt {a c : Addr} {H H1 : Hp} {ds : List PyData} (s : Sd H a) (x : SX a H H1) (hc : c ≠ a) (h : LT H c ds) : LT H1 c ds := by
  obtain ⟨xs, e, t⟩ := h
  exact ⟨xs, x.1 _ _ hc e, t.mono (x.fs s)⟩

/-! ### a comprehension whose block draws -/
section
variable {α : Type} {K : PySem.W.Frag} {a sd : Addr} {xs : List V} {g : TG} {te : TE} {vs : List Nat} {σ : L2.St} {H1 : Hp} {D : Addr} {Qd : Hp → Prop}
theorem lc_tupX (dat : α → PyData) (Pr : Nat → α → Prop) (hD : H1 D = none) (hS : Sd H1 sd) (hl : TF H1 a xs) (hz : xs.length ≤ sizeLine)
    (hs : ∀ (i : Nat) (x : V) (H : Hp) (C : V → Hp → Prop), xs[i]? = some x → SX sd H1 H → (∀ y b H4, SX sd H H4 → Tp H4 y (dat b) → Pr i b → C y H4) →
      g x (wipe σ vs) H fun σ2 H2 => wipe σ2 vs = wipe σ vs ∧ te σ2 H2 C)
    (hd : ∀ H acc (as : List α), SX sd H1 H → H D = some (.lst acc) → as.length = xs.length → TpAll H acc (as.map dat) → (∀ j b, as[j]? = some b → Pr j b) → Qd H) :
    ∃ W : Nat → Nat → Hp → Prop, (∃ m, W 0 m (upd H1 D (.lst []))) ∧ ∀ i m H, W i m H →
      ((Itt K a).stop i H ∧ Qd H) ∨ ((Itt K a).go i H ∧ ∃ Nx : Hp → Prop, (∀ H', Nx H' → ∃ m', m' < m ∧ W (i + 1) m' H') ∧ ∀ x H', (Itt K a).yld i H x H' → g x (wipe σ vs) H' fun σ2 H2 => wipe σ2 vs = wipe σ vs ∧ tYes σ2 H2 fun b H3 =>
        if b = true then te σ2 H3 fun y H4 => ∃ acc, H4 D = some (.lst acc) ∧ acc.length < sizeLine ∧ Nx (upd H4 D (.lst (acc ++ [y]))) else Nx H3) := by
  have hDs : D ≠ sd := (hS.ne hD).symm
  refine lc_tup (tt := tYes) (fun i H => SX sd H1 H ∧ ∃ acc as, H D = some (.lst acc) ∧ as.length = i ∧ TpAll H acc (as.map dat) ∧ ∀ j b, as[j]? = some b → Pr j b)
    ⟨.ofSame hS (same_new hD _), [], [], upd_same, rfl, .nil, fun j b e => by simp at e⟩ (fun i H _ p => (hl.mono (p.1.fs hS)).sq) (fun i x H hx p => ?_) (fun H p => ?_)
  · obtain ⟨sx, acc, as, hA, hn, tA, hP⟩ := p
    have hi : i < xs.length := (List.getElem?_eq_some_iff.mp hx).1
    refine hs i x H _ hx sx fun y b H4 s4 t4 pb => ?_
    refine ⟨acc, s4.1 _ _ hDs hA, ?_, (sx.trans s4).same2 hD hDs, acc ++ [y], as ++ [b], upd_same, by rw [List.length_append, hn]; rfl, ?_, fun j c e => ?_⟩
    · rw [tA.len, List.length_map, hn]
      omega
    · rw [List.map_append]
      exact ((tA.mono (s4.fs sx.2)).snoc t4).mono (fs_lst (s4.1 _ _ hDs hA))
    · by_cases hj : j < as.length
      · rw [List.getElem?_append_left hj] at e
        exact hP j c e
      · rw [List.getElem?_append_right (by omega)] at e
        have : j - as.length = 0 := by
          have := (List.getElem?_eq_some_iff.mp e).1
          simp at this
          omega
        rw [this] at e
        cases e
        have : j = i := by omega
        subst this
        exact pb
  · obtain ⟨sx, acc, as, hA, hn, tA, hP⟩ := p
    exact hd H acc as sx hA hn tA hP
end

/-! ### _law_value -/
abbrev sVal : Stmt := topS 17
abbrev nVal : List Str := ["kind", "seed", "deep", "great", "counts", "k", "value", "field", "part"]
theorem scVal : FnScope nVal ["kind", "seed", "deep"] (defScope sVal) := ⟨rfl, rfl, rfl, by decide +kernel, rfl, by decide +kernel, by decide +kernel⟩
def VRes (deep : Int) (k : Kd) (v : Val) : Prop := (deep = 1 → VOk 2 100 k v) ∧ (deep = 0 → ∃ k', k = .bag k' ∧ BOk 3 2 100 k' v)
def spVal (n : Nat) : Sp := fun vs H Q _ => ∃ (kv : V) (sd : Addr) (deep : Int) (k : Kd), vs = [kv, .ref sd, .int deep] ∧ k.rank ≤ n ∧ k.rank ≤ 8 ∧ (deep = 1 ∨ (deep = 0 ∧ ∃ k', k = .bag k')) ∧ Tp H kv k.enc ∧ Sd H sd ∧
  ∀ r H' v, SX sd H H' → Tp H' r v.enc → VRes deep k v → Q r H'
theorem five_le {x y z u v : V} : ([x, y, z, u, v] : List V).length ≤ sizeLine := by show 5 ≤ sizeLine; decide
theorem len2 {α : Type} : ∀ {l : List α}, l.length = 2 → ∃ a b, l = [a, b]
  | [a, b], _ => ⟨a, b, rfl⟩
theorem len4 {α : Type} : ∀ {l : List α}, l.length = 4 → ∃ a b c d, l = [a, b, c, d]
  | [a, b, c, d], _ => ⟨a, b, c, d, rfl⟩
theorem VOk.tnum {m b : Nat} {v : Val} (h : VOk m b (.bag .num) v) : ∃ ts : List (Int × Int), v = .bag (.ofR (ts.map fun p => (.num p.1, p.2))) ∧ ts.length ≤ m ∧ ∀ p ∈ ts, p.1.natAbs < 2 ^ b ∧ p.2.natAbs < 2 ^ b := by
  obtain ⟨l, rfl, h1, h2⟩ := h
  refine ⟨l.map fun p => (p.1.numOf, p.2), ?_, by rw [List.length_map]; exact h1, fun p hp => ?_⟩
  · rw [List.map_map]
    have : l.map ((fun p : Int × Int => (Val.num p.1, p.2)) ∘ fun p : Val × Int => (p.1.numOf, p.2)) = l := by
      refine (List.map_congr_left fun p hp => ?_).trans (List.map_id l)
      obtain ⟨⟨n, e, _⟩, _⟩ := h2 p hp
      obtain ⟨v, c⟩ := p
      have e' : v = Val.num n := e
      subst e'
      rfl
    rw [this]
  · obtain ⟨p', hp', rfl⟩ := List.mem_map.mp hp
    obtain ⟨⟨n, e, hn⟩, hc⟩ := h2 p' hp'
    exact ⟨by show p'.1.numOf.natAbs < _; rw [e]; exact hn, hc⟩
theorem four_le {x y z u : V} : ([x, y, z, u] : List V).length ≤ sizeLine := by show 4 ≤ sizeLine; decide
theorem pow_mulok {i j : Int} {a b : Nat} (ha : i.natAbs < 2 ^ a) (hb : j.natAbs < 2 ^ b) (h0 : 0 < a) (h1 : 0 < b) (h : a + b ≤ 1000000) : CMulW i j := wide_mul ha hb h0 h1 h
theorem Kd.enc_row {k : Kd} {xs : List PyData} (h : k = .level ∨ k = .deep) : k.enc = .tuple [.str "row", .tuple (k.fields.map fun p => .tuple [.str p.1, p.2.enc])] := by rcases h with rfl | rfl <;> rfl
section
variable {P : Program} {w : World} {K : PySem.W.Frag} {mg : Str → Option Value} {base : Heap}
theorem ok_val1 {n : Nat} {f fD fG : Addr} {fd fdD fdG : FuncData} (F : Fun K "_law_value" "_law_value" sVal f fd)
    (GV : FnOk P w K mg base CX0 (n + 9) f fd ["kind", "seed", "deep"] (spVal n)) (bV : Binds K fd ["kind", "seed", "deep"] []) (mV : mg "_law_value" = some (.ref f))
    (GD : FnOk P w K mg base CX0 1 fD fdD ["seed", "most"] spDraw) (bD : Binds K fdD ["seed", "most"] []) (kD : PySem.W.keepIn K (.ref fD) = true) (mD : mg "_law_draw" = some (.ref fD))
    (GG : FnOk P w K mg base CX0 9 fG fdG ["counts"] spBag) (bG : Binds K fdG ["counts"] []) (kG : PySem.W.keepIn K (.ref fG) = true) (mG : mg "_law_bag" = some (.ref fG))
    (mt : mg "tuple" = none) (mi : mg "int" = none) (mr : mg "range" = none) :
    FnOk P w K mg base CX0 (n + 10) f fd ["kind", "seed", "deep"] (spVal (n + 1)) := by
  refine F.ok scVal (fun vs H Q E h => ?_) (fun cdv A outer s H vs Q E hr h => ?_)
  · obtain ⟨kv, sd, deep, k, rfl, _⟩ := h
    rfl
  obtain ⟨kv, sd, deep, k, rfl, hk, hk8, hdp, hT, hS, q⟩ := h
  have hr1 := hr.mono (show 1 ≤ n + 9 by omega)
  refine ⟨_, pss_cons (ps_if (pt_cmpR op_eq (pe_ix ix_tup (pv 0) pe_int (fun _ _ => rfl)) pe_str (nomark _))
      (pss_cons (ps_set (i := 3) scVal.nd rfl (.inl rfl) (pe_op op_mulW (pe_call GD hr1 rfl mD kD bD .nil pass0 (pa_cons (pv 1) (pa_cons (pe_op op_pow pe_int pe_int) pa_nil))) (pe_op op_pow pe_int pe_int)))
      (pss_one (ps_ret (pe_tupF (pa_cons pe_str (pa_cons (pe_ix ix_list (pe_lst (pa_cons (pe_op op_sub (pe_call GD hr1 rfl mD kD bD .nil pass0 (pa_cons (pv 1) (pa_cons pe_int pa_nil))) pe_int) (pa_cons (pv 3) pa_nil)))
        (pe_callTy call_int1 (by rfl) mi (by decide +kernel) (pa_cons (pe_cmpR op_eq (pe_call GD hr1 rfl mD kD bD .nil pass0 (pa_cons (pv 1) (pa_cons pe_int pa_nil))) pe_int (nomark _)) pa_nil)) (fun _ _ => rfl)) pa_nil)))))) pss_nil)
    (pss_cons (ps_if (pt_cmpR op_eq (pe_ix ix_tup (pv 0) pe_int (fun _ _ => rfl)) pe_str (nomark _))
      (pss_one (ps_ret (pe_tupF (pa_cons pe_str (pa_cons (pe_ix ix_list (pe_lst (pa_cons pe_str (pa_cons pe_str (pa_cons pe_str (pa_cons pe_str pa_nil)))))
        (pe_call GD hr1 rfl mD kD bD .nil pass0 (pa_cons (pv 1) (pa_cons pe_int pa_nil))) (fun _ _ => rfl)) pa_nil))))) pss_nil)
    (pss_cons (ps_if (pt_cmpR op_eq (pe_ix ix_tup (pv 0) pe_int (fun _ _ => rfl)) pe_str (nomark _))
      (pss_one (ps_ret (pe_tupF (pa_cons pe_str (pa_cons (pe_callTy call_tupleF (by rfl) mt (by decide +kernel) (pa_cons
        (pe_lc (own := [("field", 7), ("part", 8)]) (g := gTup K 2 (gCons (gName 7) (gCons (gName 8) gNil))) (tt := tYes) rfl scVal.nd (pi_tup (pe_ix ix_tup (pv 0) pe_int (fun _ _ => rfl))) (blkOk_by (N := nVal) (sc := defScope sVal) (by decide +kernel))
          (fun _ _ _ _ _ => pg_tup rfl (pgs_cons (pg_name (i := 7) scVal.nd rfl (.inl rfl)) (pgs_cons (pg_name (i := 8) scVal.nd rfl (.inl rfl)) pgs_nil))) (fun _ _ _ _ _ => pts_nil)
          (fun _ _ _ _ _ => pe_tupF (pa_cons (pv 7) (pa_cons (pe_call GV hr rfl mV F.kp bV .nil pass0 (pa_cons (pv 8) (pa_cons (pv 1) (pa_cons (pv 2) pa_nil)))) pa_nil)))) pa_nil)) pa_nil))))) pss_nil)
    (pss_cons (ps_set (i := 4) scVal.nd rfl (.inl rfl) (pe_lst pa_nil))
    (pss_cons (ps_for PassesOwn.never rfl (pi_range1 rfl mr (pa_cons (pe_call GD hr1 rfl mD kD bD .nil pass0 (pa_cons (pv 1) (pa_cons (pe_op op_sub pe_int (pv 2)) pa_nil))) pa_nil)) (pg_name (i := 5) scVal.nd rfl (.inl rfl))
      (pss_cons (ps_set (i := 6) scVal.nd rfl (.inl rfl) (pe_call GV hr rfl mV F.kp bV .nil pass0 (pa_cons (pe_ix ix_tup (pv 0) pe_int (fun _ _ => rfl)) (pa_cons (pv 1) (pa_cons pe_int pa_nil)))))
      (pss_one (ps_expr (pe_bm PySem.F.plainAttrs_list PySem.F.slot_list_append PySem.F.type_list_append mt_append (pv 4) (pa_cons (pe_tupF (pa_cons (pv 6) (pa_cons
        (pe_ix ix_list (pe_lst (pa_cons pe_int (pa_cons pe_int (pa_cons (pe_un un_neg pe_int) (pa_cons (pe_un un_neg pe_int) (pa_cons (pe_op op_sub (pe_call GD hr1 rfl mD kD bD .nil pass0 (pa_cons (pv 1) (pa_cons (pe_op op_pow pe_int pe_int) pa_nil))) pe_int) pa_nil))))))
          (pe_call GD hr1 rfl mD kD bD .nil pass0 (pa_cons (pv 1) (pa_cons pe_int pa_nil))) (fun _ _ => rfl)) pa_nil))) pa_nil))))))
    (pss_one (ps_ret (pe_call GG (hr.mono (by omega)) rfl mG kG bG .nil pass0 (pa_cons (pv 4) pa_nil)))))))), ?_⟩
  have wi : ∀ r : Int, 0 ≤ r → r < 10 ^ 9 → r.natAbs < 2 ^ 30 := fun r h0 h1 => by omega
  cases k with
  | num =>
    obtain ⟨a, x0, rfl, f0, t0⟩ := hT.i1
    obtain rfl := t0.strI
    refine ⟨_, rfl, a, _, 0, _, rfl, rfl, f0.sq, rfl, rfl, _, rfl, iteT ?_⟩
    refine ⟨_, rfl, _, _, rfl, rfl, ⟨by decide, by decide, by decide⟩, sd, _, rfl, hS, by decide, by decide, fun r1 H1 h10 h11 x1 => ?_⟩
    have h11' : r1 < 10 ^ 9 := h11
    have w1 := wi r1 h10 h11'
    refine ⟨_, _, rfl, rfl, ⟨by decide, by decide, by decide⟩, _, _, rfl, rfl, wide_mul (b := 67) w1 (by decide) (by decide) (by decide) (by decide), ?_⟩
    refine ⟨_, rfl, sd, 5, rfl, x1.2, by decide, by decide, fun r2 H2 h20 h21 x2 => ⟨_, _, rfl, rfl, _, rfl, two_le, fun L hL => ?_⟩⟩
    have x2' := x2.same (same_new hL (.lst [.int (r2 - 2), .int (r1 * 10 ^ (20 : Int).toNat)]))
    refine ⟨_, rfl, sd, 9, rfl, x2'.2, by decide, by decide, fun r3 H3 h30 h31 x3 => ⟨rfl, .inr ⟨_, rfl, ?_⟩⟩⟩
    have hL3 := x3.1 _ _ (x2.2.ne hL).symm upd_same
    have fin : ∀ z : Int, z.natAbs < 2 ^ 100 → ∀ p o, H3 p = none → NoD o → Q (.ref p) (upd H3 p (.frz o (.tup [.str "num", .int z]))) := fun z hz p o hp no =>
      q _ _ (.num z) ((x1.trans (x2'.trans x3)).same (same_new hp _)) (.new hp no (.cons (.str _) (.cons (.int z) .nil))) ⟨fun _ => ⟨z, rfl, hz⟩, fun e => by
        rcases hdp with e1 | ⟨_, k', e2⟩
        · omega
        · cases e2⟩
    cases hc : decide (V.int r3 = V.int 0) with
    | true =>
      refine ⟨L, _, _, _, rfl, rfl, SqL.of hL3, rfl, two_le, fin _ ?_⟩
      have e : (10 : Int) ^ (20 : Int).toNat = 10 ^ 20 := rfl
      rw [e]
      omega
    | false =>
      refine ⟨L, _, _, _, rfl, rfl, SqL.of hL3, rfl, two_le, fin _ ?_⟩
      omega
  | word =>
    obtain ⟨a, x0, rfl, f0, t0⟩ := hT.i1
    obtain rfl := t0.strI
    refine ⟨_, rfl, a, _, 0, _, rfl, rfl, f0.sq, rfl, rfl, _, rfl, iteF ?_⟩
    refine ⟨_, rfl, a, _, 0, _, rfl, rfl, f0.sq, rfl, rfl, _, rfl, iteT ?_⟩
    refine ⟨four_le, fun L hL => ?_⟩
    have x1 := SX.ofSame hS (same_new hL (.lst [.str "a", .str "r", .str "ab", .str "dt"]))
    refine ⟨_, rfl, sd, 4, rfl, x1.2, by decide, by decide, fun r2 H2 h20 h21 x2 => ?_⟩
    have hL2 := x2.1 _ _ (hS.ne hL).symm upd_same
    obtain ⟨v, hv, hm⟩ := atI_mem (xs := [V.str "a", .str "r", .str "ab", .str "dt"]) h20 h21
    obtain ⟨z, rfl⟩ : ∃ z, v = .str z := by
      simp only [List.mem_cons, List.not_mem_nil, or_false] at hm
      rcases hm with rfl | rfl | rfl | rfl <;> exact ⟨_, rfl⟩
    refine ⟨L, _, _, _, rfl, rfl, SqL.of hL2, hv, two_le, fun p o hp no => ?_⟩
    refine q _ _ (.word z) ((x1.trans x2).same (same_new hp _)) (.new hp no (.cons (.str _) (.cons (.str z) .nil))) ⟨fun _ => ⟨z, rfl⟩, fun e => ?_⟩
    rcases hdp with e1 | ⟨_, k', e2⟩
    · omega
    · cases e2
  | bag k' =>
    obtain ⟨a, x0, x1, rfl, f0, t0, t1⟩ := hT.i2
    obtain rfl := t0.strI
    refine ⟨_, rfl, a, _, 0, _, rfl, rfl, f0.sq, rfl, rfl, _, rfl, iteF ?_⟩
    refine ⟨_, rfl, a, _, 0, _, rfl, rfl, f0.sq, rfl, rfl, _, rfl, iteF ?_⟩
    refine ⟨_, rfl, a, _, 0, _, rfl, rfl, f0.sq, rfl, rfl, _, rfl, iteF ?_⟩
    refine ⟨Nat.zero_le _, fun co hco => ?_⟩
    have hcs : sd ≠ co := hS.ne hco
    have x0 := SX.ofSame hS (same_new hco (.lst []))
    have hrk : k'.rank + 1 ≤ n + 1 := hk
    have hrk8 : k'.rank + 1 ≤ 8 := hk8
    refine ⟨_, rfl, _, rfl, _, _, rfl, rfl, sd, 4 - deep, rfl, x0.2, by omega, by omega, fun r1 H1 h10 h11 y1 => ⟨r1, rfl, by omega, by omega, ?_⟩⟩
    have x1 := x0.trans y1
    have hc1 := y1.1 _ _ hcs.symm (show (upd H co (.lst [])) co = some (.lst []) from upd_same)
    refine for_range (fun i σ H2 => ∃ y5 y6, σ = [some (.ref a), some (.ref sd), some (.int deep), none, some (.ref co), y5, y6, none, none] ∧ SX2 sd co H1 H2 ∧
        ∃ l : List (Val × Int), l.length = i ∧ LT H2 co (l.map pdat) ∧ ∀ p ∈ l, VOk 2 100 k' p.1 ∧ p.2.natAbs < 2 ^ 98)
      ⟨none, none, rfl, .refl x1.2, [], rfl, ⟨[], hc1, .nil⟩, fun p hp => nomatch hp⟩ (fun i σ H2 hi p => ?_) (fun σ H2 p => ?_)
    · obtain ⟨y5, y6, rfl, s2, l, hl, ⟨fx, hF, tF⟩, hlk⟩ := p
      have f2 : FS H H2 := (x1.fs hS).trans (s2.fs x1.2 hc1)
      refine ⟨_, rfl, a, _, 1, _, rfl, rfl, (f0.mono f2).sq, rfl, _, rfl, _, sd, 1, k', rfl, by omega, by omega, .inl rfl, t1.mono f2, s2.2, fun r3 H3 v s3 t3 vr => ?_⟩
      have hF3 := s3.1 _ _ hcs.symm hF
      refine ⟨_, rfl, .inl ⟨rfl, _, .inl (.inl hF3)⟩, _, rfl, _, rfl, _, rfl, _, rfl, _, _, rfl, rfl, ⟨by decide, by decide, by decide⟩, sd, _, rfl, s3.2, by decide, by decide, fun r5 H5 h50 h51 s5 => ⟨_, _, rfl, rfl, five_le, fun L hL => ?_⟩⟩
      have h51' : r5 < 10 ^ 9 := h51
      have s5' := s5.same (same_new hL (.lst [.int 1, .int 2, .int (-1), .int (-3), .int (r5 - 3)]))
      refine ⟨_, rfl, sd, 5, rfl, s5'.2, by decide, by decide, fun r6 H6 h60 h61 s6 => ?_⟩
      have hL6 := s6.1 _ _ (s5.2.ne hL).symm upd_same
      obtain ⟨v6, hv, hm⟩ := atI_mem (xs := [V.int 1, .int 2, .int (-1), .int (-3), .int (r5 - 3)]) h60 h61
      obtain ⟨z, rfl, hz⟩ : ∃ z : Int, v6 = .int z ∧ z.natAbs < 2 ^ 98 := by
        simp only [List.mem_cons, List.not_mem_nil, or_false] at hm
        rcases hm with rfl | rfl | rfl | rfl | rfl
        · exact ⟨_, rfl, by decide⟩
        · exact ⟨_, rfl, by decide⟩
        · exact ⟨_, rfl, by decide⟩
        · exact ⟨_, rfl, by decide⟩
        · exact ⟨_, rfl, by omega⟩
      refine ⟨L, _, _, _, rfl, rfl, SqL.of hL6, hv, two_le, fun p o hp no => ?_⟩
      have s7 := (s5'.trans s6).same (same_new hp (.frz o (.tup [r3, .int z])))
      have hF7 := s7.1 _ _ hcs.symm hF3
      have hfl : fx.length = i := by rw [tF.len, List.length_map, hl]
      refine ⟨co, fx, _, rfl, rfl, hF7, by rw [hfl, sizeLine_eq]; omega, ?_⟩
      refine ⟨_, _, rfl, ((s2.sx s3).sx s7).upd hcs, l ++ [(v, z)], by rw [List.length_append, hl]; rfl, ⟨_, upd_same, ?_⟩, fun p' hp' => ?_⟩
      · rw [List.map_append]
        refine (((tF.mono (s3.fs s2.2)).mono (s7.fs s3.2)).snoc ?_).mono (fs_lst hF7)
        exact .new hp no (.cons (t3.mono (((s5'.trans s6).fs s3.2))) (.cons (.int z) .nil))
      · rcases List.mem_append.mp hp' with h | h
        · exact hlk p' h
        · obtain rfl := List.mem_singleton.mp h
          exact ⟨vr.1 rfl, hz⟩
    · obtain ⟨y5, y6, rfl, s2, l, hl, hL, hlk⟩ := p
      have hl3 : l.length ≤ 3 := by omega
      refine ⟨_, rfl, co, k', l, rfl, hL, by omega, fun p hp => (hlk p hp).1.hasK (by decide), by omega, fun r3 H3 s3 t3 => ?_⟩
      refine q r3 H3 _ ((s2.back hco (x1)).same s3) t3 ⟨fun e => ?_, fun e => ⟨k', rfl, mkBag_ok (b := 98) (e := 2) hl3 (by decide) (by decide) hlk⟩⟩
      exact mkBag_ok (b := 98) (e := 2) (n := 2) (by omega) (by decide) (by decide) hlk
  | _ =>
    have hd1 : deep = 1 := by
      rcases hdp with e1 | ⟨_, k', e2⟩
      · exact e1
      · cases e2
    subst hd1
    obtain ⟨a, x0, x1, rfl, f0, t0, t1⟩ := hT.i2
    obtain rfl := t0.strI
    obtain ⟨b, xs, rfl, fb, tb⟩ := t1.tupI
    refine ⟨_, rfl, a, _, 0, _, rfl, rfl, f0.sq, rfl, rfl, _, rfl, iteF ?_⟩
    refine ⟨_, rfl, a, _, 0, _, rfl, rfl, f0.sq, rfl, rfl, _, rfl, iteF ?_⟩
    refine ⟨_, rfl, a, _, 0, _, rfl, rfl, f0.sq, rfl, rfl, _, rfl, iteT ?_⟩
    refine ⟨_, rfl, a, _, 1, _, rfl, rfl, f0.sq, rfl, b, rfl, ⟨xs, fb.sq⟩, fun D hD => ?_⟩
    first
      | have hlx : xs.length = Kd.level.fields.length := tb.len
        have hfd : ∀ i x, xs[i]? = some x → ∃ fk : Str × Kd, Kd.level.fields[i]? = some fk ∧ fk.2.rank < Kd.level.rank ∧ Tp H x (.tuple [.str fk.1, fk.2.enc]) := fun i x hx => by
          obtain ⟨d, e, t⟩ := tb.get hx
          have e' : (Kd.level.fields.map fun p => PyData.tuple [.str p.1, p.2.enc])[i]? = some d := e
          rw [List.getElem?_map] at e'
          obtain ⟨fk, e1, rfl⟩ := Option.map_eq_some_iff.mp e'
          exact ⟨fk, e1, fields_rank (List.mem_of_getElem? e1), t⟩
        refine lc_tupX (α := Str × Val) (fun p => .tuple [.str p.1, p.2.enc]) (fun i p => ∃ fk : Str × Kd, Kd.level.fields[i]? = some fk ∧ p.1 = fk.1 ∧ VOk 2 100 fk.2 p.2) hD hS fb (by rw [hlx]; decide) (fun i x H2 C hx s2 c => ?_) (fun H2 acc as s2 hA hn tA hP => ?_)
      | have hlx : xs.length = Kd.deep.fields.length := tb.len
        have hfd : ∀ i x, xs[i]? = some x → ∃ fk : Str × Kd, Kd.deep.fields[i]? = some fk ∧ fk.2.rank < Kd.deep.rank ∧ Tp H x (.tuple [.str fk.1, fk.2.enc]) := fun i x hx => by
          obtain ⟨d, e, t⟩ := tb.get hx
          have e' : (Kd.deep.fields.map fun p => PyData.tuple [.str p.1, p.2.enc])[i]? = some d := e
          rw [List.getElem?_map] at e'
          obtain ⟨fk, e1, rfl⟩ := Option.map_eq_some_iff.mp e'
          exact ⟨fk, e1, fields_rank (List.mem_of_getElem? e1), t⟩
        refine lc_tupX (α := Str × Val) (fun p => .tuple [.str p.1, p.2.enc]) (fun i p => ∃ fk : Str × Kd, Kd.deep.fields[i]? = some fk ∧ p.1 = fk.1 ∧ VOk 2 100 fk.2 p.2) hD hS fb (by rw [hlx]; decide) (fun i x H2 C hx s2 c => ?_) (fun H2 acc as s2 hA hn tA hP => ?_)
    · obtain ⟨fk, efk, hrk, tx⟩ := hfd i x hx
      obtain ⟨a2, y0, y1, rfl, f2, u0, u1⟩ := (tx.mono (s2.fs hS)).i2
      obtain rfl := u0.strI
      refine ⟨a2, _, rfl, f2.sq, rfl, _, _, rfl, _, _, rfl, rfl, rfl, ?_⟩
      refine ⟨_, rfl, _, rfl, _, rfl, _, rfl, y1, sd, 1, fk.2, rfl, by omega, by omega, .inl rfl, u1, s2.2, fun r H3 v s3 t3 vr => ⟨two_le, fun p' o hp no => ?_⟩⟩
      exact c _ (fk.1, v) _ (s3.same (same_new hp _)) (.new hp no (.cons (.str fk.1) (.cons t3 .nil))) ⟨fk, efk, rfl, vr.1 rfl⟩
    · refine ⟨D, acc, rfl, SqL.of hA, fun p o hp no => ⟨two_le, fun p2 o2 hp2 no2 => ?_⟩⟩
      refine q _ _ (.row (.ofF as)) (s2.same ((same_new hp _).trans (same_new hp2 _))) ?_ ⟨fun _ => ?_, fun e => absurd e (by decide)⟩
      · refine .new hp2 no2 (.cons (.str _) (.cons ?_ .nil))
        rw [Val.enc_ofF]
        exact .new hp no tA
      · first
          | obtain ⟨⟨f1, v1⟩, ⟨f2, v2⟩, rfl⟩ := len2 (hn.trans hlx)
            obtain ⟨k1, e1, r1, z1⟩ := hP 0 _ rfl
            obtain ⟨k2, e2, r2, z2⟩ := hP 1 _ rfl
            obtain rfl : (("b" : Str), Kd.word) = k1 := Option.some.inj e1
            obtain rfl : (("r" : Str), Kd.num) = k2 := Option.some.inj e2
            obtain ⟨s1, z1⟩ := z1
            obtain ⟨n2, z2, hn2⟩ := z2
            obtain rfl : f1 = "b" := r1
            obtain rfl : f2 = "r" := r2
            obtain rfl : v1 = .word s1 := z1
            obtain rfl : v2 = .num n2 := z2
            exact ⟨s1, n2, rfl, hn2⟩
          | obtain ⟨⟨f1, v1⟩, ⟨f2, v2⟩, ⟨f3, v3⟩, ⟨f4, v4⟩, rfl⟩ := len4 (hn.trans hlx)
            obtain ⟨k1, e1, r1, z1⟩ := hP 0 _ rfl
            obtain ⟨k2, e2, r2, z2⟩ := hP 1 _ rfl
            obtain ⟨k3, e3, r3, z3⟩ := hP 2 _ rfl
            obtain ⟨k4, e4, r4, z4⟩ := hP 3 _ rfl
            obtain rfl : (("a" : Str), Kd.num) = k1 := Option.some.inj e1
            obtain rfl : (("b" : Str), Kd.word) = k2 := Option.some.inj e2
            obtain rfl : (("t" : Str), Kd.bag .num) = k3 := Option.some.inj e3
            obtain rfl : (("z" : Str), Kd.word) = k4 := Option.some.inj e4
            obtain ⟨n1, z1, hn1⟩ := z1
            obtain ⟨s2', z2⟩ := z2
            obtain ⟨ts, z3, ht1, ht2⟩ := VOk.tnum z3
            obtain ⟨s4, z4⟩ := z4
            obtain rfl : f1 = "a" := r1
            obtain rfl : f2 = "b" := r2
            obtain rfl : f3 = "t" := r3
            obtain rfl : f4 = "z" := r4
            obtain rfl : v1 = .num n1 := z1
            obtain rfl : v2 = .word s2' := z2
            obtain rfl : v3 = _ := z3
            obtain rfl : v4 = .word s4 := z4
            exact ⟨n1, s2', s4, ts, rfl, ht1, hn1, ht2⟩
theorem ok_val {f fD fG : Addr} {fd fdD fdG : FuncData} (F : Fun K "_law_value" "_law_value" sVal f fd)
    (bV : Binds K fd ["kind", "seed", "deep"] []) (mV : mg "_law_value" = some (.ref f))
    (GD : FnOk P w K mg base CX0 1 fD fdD ["seed", "most"] spDraw) (bD : Binds K fdD ["seed", "most"] []) (kD : PySem.W.keepIn K (.ref fD) = true) (mD : mg "_law_draw" = some (.ref fD))
    (GG : FnOk P w K mg base CX0 9 fG fdG ["counts"] spBag) (bG : Binds K fdG ["counts"] []) (kG : PySem.W.keepIn K (.ref fG) = true) (mG : mg "_law_bag" = some (.ref fG))
    (mt : mg "tuple" = none) (mi : mg "int" = none) (mr : mg "range" = none) : ∀ n, FnOk P w K mg base CX0 (n + 9) f fd ["kind", "seed", "deep"] (spVal n)
  | 0 => by
    refine ⟨fun vs H Q E h => ?_, fun A outer s H args us vs Q E _ _ _ _ h => ?_⟩
    all_goals
      obtain ⟨_, _, _, k, _, h1, _⟩ := h
      exact absurd k.rank_pos (by omega)
  | n + 1 => ok_val1 F (ok_val F bV mV GD bD kD mD GG bG kG mG mt mi mr n) bV mV GD bD kD mD GG bG kG mG mt mi mr
end
end N97

/-! KaW7 -/
set_option maxRecDepth 100000
set_option maxHeartbeats 8000000
namespace N97
open PySem PySem.Spec PyProof.Rows L2

/-! ### constant data -/
def tCon (d : PyData) : TE := fun _ H Q => ∀ v H', Same H H' → Tp H' v d → Q v H'
def tConA (ds : List PyData) : TA := fun _ H Q => ∀ vs H', Same H H' → TpAll H' vs ds → Q vs H'
section
variable {X : Cx} {e : Expr} {es : List Expr} {d : PyData} {ds : List PyData} {pos : Pos}
theorem pe_conS {x : Str} {k : Nat} : PE X (.Constant (.str x) k pos) (tCon (.str x)) := ⟨fun pins s σ H Q I h => pe_str.run pins s σ H Q I (h _ _ (.refl H) (.str x))⟩
theorem pe_conI {x : Int} {k : Nat} : PE X (.Constant (.int x) k pos) (tCon (.int x)) := ⟨fun pins s σ H Q I h => pe_int.run pins s σ H Q I (h _ _ (.refl H) (.int x))⟩
theorem pa_conN : PA X [] (tConA []) := ⟨fun pos pins s σ H Q I h => pa_nil.run pos pins s σ H Q I (h _ _ (.refl H) .nil)⟩
theorem pa_con (ha : PE X e (tCon d)) (hr : PA X es (tConA ds)) (hs : starEach (e :: es) X.env = (false, PySem.eval e X.env) :: starEach es X.env := by rfl) : PA X (e :: es) (tConA (d :: ds)) :=
  ⟨fun pos pins s σ H Q I h => (pa_cons ha hr hs).run pos pins s σ H Q I fun v H1 s1 t1 => fun vs H2 s2 t2 => h _ _ (s1.trans s2) (.cons (t1.mono s2.fs) t2)⟩
theorem pe_conT {c} (h : PA X es (tConA ds)) (hz : ds.length ≤ 100 := by decide) : PE X (.Tuple es c pos) (tCon (.tuple ds)) :=
  ⟨fun pins s σ H Q I q => (pe_tupF h).run pins s σ H Q I fun vs H1 s1 t1 => ⟨Nat.le_trans (by rw [t1.len]; exact hz) (by decide : 100 ≤ sizeLine), fun p o hp no => q _ _ (s1.trans (same_new hp _)) (.new hp no t1)⟩⟩
end

/-! ### _law_kinds -/
abbrev sKds : Stmt := topS 18
abbrev nKds : List Str := ["level", "deep"]
theorem scKds : FnScope nKds [] (defScope sKds) := ⟨rfl, rfl, rfl, by decide +kernel, rfl, by decide +kernel, by decide +kernel⟩
def kT5 : List Kd := [.level, .level, .num, .deep, .bag .word]
/-- the dict of the kinds -/
def KDs (H : Hp) (p : Addr) : Prop := ∃ vl vt vd vv : V, H p = some (.dK [(Sum.inr "r", vl), (Sum.inr "s", vl), (Sum.inr "t", vt), (Sum.inr "u", vd), (Sum.inr "v", vv)]) ∧
  Tp H vl Kd.level.enc ∧ Tp H vt Kd.num.enc ∧ Tp H vd Kd.deep.enc ∧ Tp H vv (Kd.bag .word).enc
theorem KDs.get {H : Hp} {p : Addr} {t : Str} {k : Kd} (h : KDs H p) (e : kdOf t = some k) : ∃ u, DGet H p (.str t) (some u) ∧ Tp H u k.enc := by
  obtain ⟨vl, vt, vd, vv, h, tl, tt, td, tv⟩ := h
  have get : ∀ u, valV [((Sum.inr "r" : Key), vl), (Sum.inr "s", vl), (Sum.inr "t", vt), (Sum.inr "u", vd), (Sum.inr "v", vv)] (Sum.inr t) = some u → DGet H p (.str t) (some u) := fun u e => .inl ⟨_, Sum.inr t, .inl h, rfl, e.symm⟩
  unfold kdOf at e
  split at e
  · next h1 => subst h1; cases e; exact ⟨vl, get _ rfl, tl⟩
  · split at e
    · next h1 => subst h1; cases e; exact ⟨vl, get _ rfl, tl⟩
    · split at e
      · next h1 => subst h1; cases e; exact ⟨vt, get _ rfl, tt⟩
      · split at e
        · next h1 => subst h1; cases e; exact ⟨vd, get _ rfl, td⟩
        · split at e
          · next h1 => subst h1; cases e; exact ⟨vv, get _ rfl, tv⟩
          · cases e
theorem KDs.mono {H H' : Hp} {p : Addr} (h : KDs H p) (f : FS H H') (e : ∀ kvs, H p = some (.dK kvs) → H' p = some (.dK kvs)) : KDs H' p := by
  obtain ⟨vl, vt, vd, vv, h, tl, tt, td, tv⟩ := h
  exact ⟨vl, vt, vd, vv, e _ h, tl.mono f, tt.mono f, td.mono f, tv.mono f⟩
def spKds : Sp := fun vs H Q _ => vs = [] ∧ ∀ p H', Same H H' → KDs H' p → Q (.ref p) H'
section
variable {P : Program} {w : World} {K : PySem.W.Frag} {mg : Str → Option Value} {base : Heap}
theorem ok_kds {f : Addr} {fd : FuncData} {k : Nat} (F : Fun K "_law_kinds" "_law_kinds" sKds f fd) : FnOk P w K mg base CX0 (k + 1) f fd [] spKds := by
  refine F.ok scKds (fun vs H Q E h => ?_) (fun cdv A outer s H vs Q E hr h => ?_)
  · obtain ⟨rfl, _⟩ := h
    rfl
  obtain ⟨rfl, q⟩ := h
  refine ⟨_, pss_cons (ps_set (i := 0) scKds.nd rfl (.inl rfl) (pe_conT (pa_con pe_conS (pa_con (pe_conT (pa_con (pe_conT (pa_con pe_conS (pa_con (pe_conT (pa_con pe_conS pa_conN)) pa_conN)))
      (pa_con (pe_conT (pa_con pe_conS (pa_con (pe_conT (pa_con pe_conS pa_conN)) pa_conN))) pa_conN))) pa_conN))))
    (pss_cons (ps_set (i := 1) scKds.nd rfl (.inl rfl) (pe_conT (pa_con pe_conS (pa_con (pe_conT (pa_con (pe_conT (pa_con pe_conS (pa_con (pe_conT (pa_con pe_conS pa_conN)) pa_conN)))
      (pa_con (pe_conT (pa_con pe_conS (pa_con (pe_conT (pa_con pe_conS pa_conN)) pa_conN)))
      (pa_con (pe_conT (pa_con pe_conS (pa_con (pe_conT (pa_con pe_conS (pa_con (pe_conT (pa_con pe_conS pa_conN)) pa_conN))) pa_conN)))
      (pa_con (pe_conT (pa_con pe_conS (pa_con (pe_conT (pa_con pe_conS pa_conN)) pa_conN))) pa_conN))))) pa_conN))))
    (pss_one (ps_ret (pe_disp (pps_cons pe_str (pv 0) (pps_cons pe_str (pv 0) (pps_cons pe_str (pe_conT (pa_con pe_conS pa_conN)) (pps_cons pe_str (pv 1) (pps_cons pe_str (pe_conT (pa_con pe_conS (pa_con (pe_conT (pa_con pe_conS pa_conN)) pa_conN))) pps_nil))))) (by rfl) (by rfl) (fun z => nomatch z) (by decide))))), ?_⟩
  intro vl H1 s1 t1
  intro vd H2 s2 t2
  intro p hp
  have s3 : Same H2 (upd H2 p (.dK [])) := same_new hp _
  refine ⟨_, rfl, _, rfl, fun vt H4 s4 t4 => ⟨_, rfl, fun vv H5 s5 t5 => ?_⟩⟩
  have hp5 := s5 _ _ (s4 _ _ upd_same)
  refine ⟨hp5, [(Sum.inr "r", vl), (Sum.inr "s", vl), (Sum.inr "t", vt), (Sum.inr "u", vd), (Sum.inr "v", vv)], rfl, (show 5 ≤ 15 by decide), ?_⟩
  have f6 : FS H5 (upd H5 p (.dK (mergeK [] [(Sum.inr "r", vl), (Sum.inr "s", vl), (Sum.inr "t", vt), (Sum.inr "u", vd), (Sum.inr "v", vv)]))) := fs_dK hp5
  refine q p _ (fun b o e => ?_) ⟨vl, vt, vd, vv, ?_, (t1.mono (((s2.trans s3).trans (s4.trans s5)).fs)).mono f6, (t4.mono s5.fs).mono f6, (t2.mono ((s3.trans (s4.trans s5)).fs)).mono f6, t5.mono f6⟩
  · have e2 := s2 _ _ (s1 _ _ e)
    rw [upd_ne (ne_of_none e2 hp)]
    exact s5 _ _ (s4 _ _ (s3 _ _ e2))
  · rw [upd_same]
    rfl
end

/-! ### the scope -/
def cdat (p : Str × Kd) : PyData := .tuple [.str p.1, p.2.enc]
/-- a name and its kind, drawn from a dict -/
def Itm (H : Hp) (v : V) (p : Str × Kd) : Prop := ∃ t u, v = .ref t ∧ H t = some (.tup [.str p.1, u]) ∧ Tp H u p.2.enc
theorem Itm.mono {H H' : Hp} {v : V} {p : Str × Kd} (h : Itm H v p) (f : FS H H') (e : ∀ t xs, H t = some (.tup xs) → H' t = some (.tup xs)) : Itm H' v p := by
  obtain ⟨t, u, e0, h1, h2⟩ := h
  exact ⟨t, u, e0, e _ _ h1, h2.mono f⟩
theorem look_at {x : Str} {k : Kd} : ∀ {Γ : Ctx} {i : Nat}, Γ[i]? = some (x, k) → (∀ j p, j < i → Γ[j]? = some p → p.1 ≠ x) → look x Γ = some k
  | p :: r, 0, e, _ => by
    have e' : p = (x, k) := by simpa using e
    subst e'
    exact if_pos rfl
  | p :: r, i + 1, e, h => by
    show (if p.1 = x then _ else _) = _
    rw [if_neg (h 0 p (Nat.succ_pos _) rfl)]
    exact look_at (Γ := r) (i := i) (by simpa using e) fun j q hj hq => h (j + 1) q (by omega) (by simpa using hq)
abbrev sSeen : Stmt := topS 20
abbrev nSeen : List Str := ["scope", "found", "name", "other"]
theorem scSeen : FnScope nSeen ["scope"] (defScope sSeen) := ⟨rfl, rfl, rfl, by decide +kernel, rfl, by decide +kernel, by decide +kernel⟩
def spSeen : Sp := fun vs H Q _ => ∃ (a : Addr) (Γ : Ctx), vs = [.ref a] ∧ LT H a (Γ.map cdat) ∧ Γ.length < 64 ∧
  ∀ p H' (ts : List V) (its : List (Str × Kd)), Same H H' → H p = none → H' p = some (.lst ts) → Paired (Itm H') ts its → (∀ i ∈ its, look i.1 Γ = some i.2) → its.length ≤ Γ.length → Q (.ref p) H'
section
variable {P : Program} {w : World} {K : PySem.W.Frag} {mg : Str → Option Value} {base : Heap}
theorem mem_valV {x : Str} : ∀ {ks : List (Str × V)}, (valV (ks.map entS) (Sum.inr x)).isSome = decide (x ∈ ks.map (·.1))
  | [] => rfl
  | p :: r => by
    by_cases h : p.1 = x
    · rw [List.map_cons, valV_pos (show (entS p).1 = Sum.inr x by rw [← h]; rfl)]
      simp [h]
    · rw [List.map_cons, valV_neg (show ¬ (entS p).1 = Sum.inr x from fun e => h (Sum.inr.inj e)), mem_valV (ks := r)]
      have : x ≠ p.1 := fun e => h e.symm
      simp [this]
theorem putK_new {x : Str} {u : V} {ks : List (Str × V)} (h : x ∉ ks.map (·.1)) : putK (ks.map entS) (Sum.inr x) u = (ks ++ [(x, u)]).map entS := by
  unfold putK
  rw [if_neg, List.map_append]
  · rfl
  · intro e
    obtain ⟨p, hp, e⟩ := List.any_eq_true.mp e
    obtain ⟨q, hq, rfl⟩ := List.mem_map.mp hp
    exact h (List.mem_map.mpr ⟨q, hq, Sum.inr.inj (of_decide_eq_true e)⟩)
theorem ok_seen {f : Addr} {fd : FuncData} {k : Nat} (F : Fun K "_law_seen" "_law_seen" sSeen f fd) (ms : mg "sorted" = none) : FnOk P w K mg base CX0 (k + 1) f fd ["scope"] spSeen := by
  refine F.ok scSeen (fun vs H Q E h => ?_) (fun cdv A outer s H vs Q E hr h => ?_)
  · obtain ⟨a, Γ, rfl, _⟩ := h
    rfl
  obtain ⟨a, Γ, rfl, ⟨xs, hA, tA⟩, hz, q⟩ := h
  refine ⟨_, pss_cons (ps_set (i := 1) scSeen.nd rfl (.inl rfl) pe_dnewK)
    (pss_cons (ps_for PassesOwn.never rfl (pi_list (pv 0)) (pg_tup rfl (pgs_cons (pg_name (i := 2) scSeen.nd rfl (.inl rfl)) (pgs_cons (pg_name (i := 3) scSeen.nd rfl (.inl rfl)) pgs_nil)))
      (pss_one (ps_if (pt_cmp (pc_dnotin (hu_of hr) (pv 2) (pv 1)))
        (pss_one (ps_dput (hu_of hr) (pv 1) (pv 2) (pv 3) rfl)) pss_nil)))
    (pss_one (ps_ret (pe_sortItems rfl (pv 1) rfl ms (by decide +kernel))))), ?_⟩
  have hlen : xs.length = Γ.length := by rw [tA.len, List.length_map]
  intro d hd
  have had : a ≠ d := ne_of_none hA hd
  refine ⟨_, rfl, a, rfl, ⟨xs, SqL.of (by rw [upd_ne had]; exact hA)⟩, ?_⟩
  refine for_list (xs := xs) (fun i σ H2 => ∃ y2 y3, σ = [some (.ref a), some (.ref d), y2, y3] ∧ (∀ b o, b ≠ d → H b = some o → H2 b = some o) ∧
      ∃ ks : List (Str × V), H2 d = some (.dK (ks.map entS)) ∧ (ks.map (·.1)).Nodup ∧ ks.length ≤ i ∧ (∀ p ∈ ks, ∃ k, look p.1 Γ = some k ∧ Tp H2 p.2 k.enc) ∧ ∀ j p, j < i → Γ[j]? = some p → p.1 ∈ ks.map (·.1))
    ⟨none, none, rfl, fun b o h e => by rw [upd_ne h]; exact e, [], upd_same, List.nodup_nil, Nat.le_refl _, (fun p h => nomatch h), fun j p h => absurd h (Nat.not_lt_zero _)⟩ (fun i σ H2 _ p => ?_) (fun i x σ H2 hx p => ?_) (fun σ H2 p => ?_)
  · obtain ⟨_, _, _, r2, _⟩ := p
    exact SqL.of (r2 _ _ had hA)
  · obtain ⟨y2, y3, rfl, r2, ks, hd2, hnd, hkl, hks, hin⟩ := p
    have s2 : Same H H2 := fun b o e => r2 b o (ne_of_none e hd) e
    obtain ⟨dd, ed, td⟩ := tA.get hx
    obtain ⟨⟨n, k⟩, ep⟩ : ∃ p, Γ[i]? = some p := ⟨Γ[i]'(by rw [← hlen]; exact (List.getElem?_eq_some_iff.mp hx).1), List.getElem?_eq_getElem _⟩
    rw [List.getElem?_map, ep] at ed
    cases ed
    have hi : i < Γ.length := (List.getElem?_eq_some_iff.mp ep).1
    obtain ⟨a2, u0, u1, rfl, f2, v0, v1⟩ := (td.mono s2.fs).i2
    obtain rfl := v0.strI
    refine ⟨a2, _, rfl, f2.sq, rfl, _, _, rfl, _, _, rfl, rfl, ?_⟩
    refine ⟨_, rfl, _, rfl, d, _, rfl, .inl ⟨_, Sum.inr n, .inl hd2, rfl, rfl⟩, _, rfl, ?_⟩
    rw [mem_valV]
    by_cases hm : n ∈ ks.map (·.1)
    · rw [decide_eq_true hm]
      refine iteF ?_
      refine ⟨_, _, rfl, r2, ks, hd2, hnd, by omega, hks, fun j p hj hp => ?_⟩
      rcases Nat.lt_succ_iff_lt_or_eq.mp hj with hj | rfl
      · exact hin j p hj hp
      · rw [ep] at hp
        cases hp
        exact hm
    · rw [decide_eq_false hm]
      refine iteT ?_
      have hz2 : (ks.map entS).length < sizeLine := by rw [List.length_map, sizeLine_eq]; omega
      refine ⟨_, rfl, _, rfl, _, rfl, d, _, rfl, DPut.k (k := Sum.inr n) hd2 hz2, ?_⟩
      rw [putK_new hm]
      have f3 : FS H2 (upd H2 d (.dK ((ks ++ [(n, u1)]).map entS))) := fs_dK hd2
      refine ⟨_, _, rfl, fun b o h e => by rw [upd_ne h]; exact r2 b o h e, ks ++ [(n, u1)], upd_same, ?_, by rw [List.length_append]; exact Nat.succ_le_succ hkl, fun p hp => ?_, fun j p hj hp => ?_⟩
      · rw [List.map_append, List.nodup_append]
        refine ⟨hnd, by simp, fun a ha b hb e => ?_⟩
        obtain rfl : b = n := by simpa using hb
        subst e
        exact hm ha
      · rcases List.mem_append.mp hp with hp | hp
        · obtain ⟨k', h1, h2⟩ := hks p hp
          exact ⟨k', h1, h2.mono f3⟩
        · obtain rfl := List.mem_singleton.mp hp
          refine ⟨k, look_at ep fun j p hj hp e => hm ?_, v1.mono f3⟩
          rw [show n = p.1 from e.symm]
          exact hin j p hj hp
      · rw [List.map_append, List.mem_append]
        rcases Nat.lt_succ_iff_lt_or_eq.mp hj with hj | rfl
        · exact .inl (hin j p hj hp)
        · rw [ep] at hp
          cases hp
          exact .inr (by simp)
  · obtain ⟨y2, y3, rfl, r2, ks, hd2, hnd, hkl, hks, hin⟩ := p
    have s2 : Same H H2 := fun b o e => r2 b o (ne_of_none e hd) e
    refine ⟨_, rfl, d, ks, rfl, hd2, hnd, by omega, fun H3 p ts ys s3 hp hperm hl3 hpr => ?_⟩
    -- the kinds in the order of the pairs
    have mk : ∀ (ts : List Addr) (ys : List (Str × V)), (∀ y ∈ ys, y ∈ ks) → Paired (fun (t : Addr) (q : Str × V) => H3 t = some (.tup [.str q.1, q.2])) ts ys →
        ∃ its : List (Str × Kd), Paired (Itm H3) (ts.map V.ref) its ∧ (∀ i ∈ its, look i.1 Γ = some i.2) ∧ its.length = ys.length := by
      intro ts ys hy h
      induction h with
      | nil => exact ⟨[], .nil, (fun i h => nomatch h), rfl⟩
      | @cons t y ts ys h1 h2 ih =>
        obtain ⟨its, i1, i2, i3⟩ := ih fun z hz => hy z (List.mem_cons_of_mem _ hz)
        obtain ⟨k', e1, e2⟩ := hks y (hy y (List.mem_cons_self ..))
        refine ⟨(y.1, k') :: its, .cons ⟨t, y.2, rfl, h1, e2.mono (fun b o u e => s3 _ _ e)⟩ i1, fun i hi => ?_, by rw [List.length_cons, List.length_cons, i3]⟩
        rcases List.mem_cons.mp hi with rfl | hi
        · exact e1
        · exact i2 i hi
    obtain ⟨its, i1, i2, i3⟩ := mk ts ys (fun y hy => hperm.mem_iff.mp hy) hpr
    refine q p H3 (ts.map V.ref) its (s2.trans s3) (by
      cases e : H p with
      | none => rfl
      | some o => have := s2 _ _ e; rw [hp] at this; cases this) hl3 i1 i2 ?_
    rw [i3, hperm.length_eq]
    omega

/-! ### _law_held -/
theorem Kd.enc_inj : ∀ {k j : Kd}, k.enc = j.enc → k = j
  | .num, .num, _ => rfl
  | .word, .word, _ => rfl
  | .level, .level, _ => rfl
  | .deep, .deep, _ => rfl
  | .bag k, .bag j, h => by
    have h' : k.enc = j.enc := by simpa [Kd.enc] using h
    rw [Kd.enc_inj h']
  | .num, .word, h => absurd h (by simp [Kd.enc]; try decide)
  | .num, .level, h => absurd h (by simp [Kd.enc])
  | .num, .deep, h => absurd h (by simp [Kd.enc])
  | .num, .bag _, h => absurd h (by simp [Kd.enc])
  | .word, .num, h => absurd h (by simp [Kd.enc]; try decide)
  | .word, .level, h => absurd h (by simp [Kd.enc])
  | .word, .deep, h => absurd h (by simp [Kd.enc])
  | .word, .bag _, h => absurd h (by simp [Kd.enc])
  | .level, .num, h => absurd h (by simp [Kd.enc])
  | .level, .word, h => absurd h (by simp [Kd.enc])
  | .level, .deep, h => absurd h (by simp [Kd.enc])
  | .level, .bag _, h => by
    have : (PyData.str "row") = .str "bag" := by
      simp only [Kd.enc, PyData.tuple.injEq, List.cons.injEq] at h
      exact h.1
    exact absurd this (by simp; decide)
  | .deep, .num, h => absurd h (by simp [Kd.enc])
  | .deep, .word, h => absurd h (by simp [Kd.enc])
  | .deep, .level, h => absurd h (by simp [Kd.enc])
  | .deep, .bag _, h => by
    have : (PyData.str "row") = .str "bag" := by
      simp only [Kd.enc, PyData.tuple.injEq, List.cons.injEq] at h
      exact h.1
    exact absurd this (by simp; decide)
  | .bag _, .num, h => absurd h (by simp [Kd.enc])
  | .bag _, .word, h => absurd h (by simp [Kd.enc])
  | .bag _, .level, h => by
    have : (PyData.str "bag") = .str "row" := by
      simp only [Kd.enc, PyData.tuple.injEq, List.cons.injEq] at h
      exact h.1
    exact absurd this (by simp; decide)
  | .bag _, .deep, h => by
    have : (PyData.str "bag") = .str "row" := by
      simp only [Kd.enc, PyData.tuple.injEq, List.cons.injEq] at h
      exact h.1
    exact absurd this (by simp; decide)
end
end N97

/-! KaW8 -/
set_option maxRecDepth 100000
set_option maxHeartbeats 8000000
namespace N97
open PySem PySem.Spec PyProof.Rows L2

theorem kd_depth : ∀ k : Kd, k.enc.depth ≤ k.rank + 8
  | .num => by simp [Kd.enc, Kd.rank, PyData.depth, PyData.depthAll]
  | .word => by simp [Kd.enc, Kd.rank, PyData.depth, PyData.depthAll]
  | .level => by simp [Kd.enc, Kd.rank, PyData.depth, PyData.depthAll]
  | .deep => by simp [Kd.enc, Kd.rank, PyData.depth, PyData.depthAll]
  | .bag k => by
    have := kd_depth k
    simp only [Kd.enc, Kd.rank, PyData.depth, PyData.depthAll]
    omega
theorem Kd.fields_enc {k : Kd} (h : k.fields ≠ []) : k.enc = .tuple [.str "row", .tuple (k.fields.map cdat)] := by
  cases k <;> first | rfl | exact absurd rfl h
/-- a kind's tag, and the rest -/
theorem Kd.enc_tag (k : Kd) : ∃ r, k.enc = .tuple (.str k.tag :: r) := by cases k <;> exact ⟨_, rfl⟩
theorem Kd.row_or (k : Kd) : (k.tag = "row" ∧ k.fields ≠ [] ∧ k.fields.length ≤ 4) ∨ k.tag ≠ "row" := by
  cases k <;> first | exact .inl ⟨rfl, by simp [Kd.fields], by simp [Kd.fields]⟩ | exact .inr (by simp [Kd.tag]; try decide)
theorem atI0 {x : V} {tr : List V} : atI (x :: tr) 0 = some x := atI_nat (j := 0) rfl
theorem three_le {x y z : V} : ([x, y, z] : List V).length ≤ sizeLine := by show 3 ≤ sizeLine; decide
theorem Tp.tag {H : Hp} {u : V} {k : Kd} (h : Tp H u k.enc) : ∃ a xs, u = .ref a ∧ TF H a (.str k.tag :: xs) := by
  obtain ⟨r, e⟩ := k.enc_tag
  rw [e] at h
  obtain ⟨a, xs, rfl, f, t⟩ := h.tupI
  cases t with
  | cons h1 h2 =>
    obtain rfl := h1.strI
    exact ⟨a, _, rfl, f⟩
abbrev sHeld : Stmt := topS 21
abbrev nHeld : List Str := ["kind", "scope", "ways", "name", "other", "field", "part"]
theorem scHeld : FnScope nHeld ["kind", "scope"] (defScope sHeld) := ⟨rfl, rfl, rfl, by decide +kernel, rfl, by decide +kernel, by decide +kernel⟩
def spHeld : Sp := fun vs H Q _ => ∃ (kv : V) (a : Addr) (k : Kd) (Γ : Ctx), vs = [kv, .ref a] ∧ k.rank ≤ 8 ∧ (∀ p ∈ Γ, p.2.rank ≤ 8) ∧ Γ.length < 64 ∧ Tp H kv k.enc ∧ LT H a (Γ.map cdat) ∧
  ∀ p H' (qs : List N97.Q), Same H H' → LT H' p (qs.map N97.Q.enc) → (∀ q ∈ qs, Held Γ k q) → qs.length ≤ 1000 → Q (.ref p) H'
theorem look_mem {x : Str} {k : Kd} : ∀ {Γ : Ctx}, look x Γ = some k → (x, k) ∈ Γ
  | p :: r, h => by
    by_cases e : p.1 = x
    · rw [look, if_pos e] at h
      cases h
      rw [← e]
      exact List.mem_cons_self ..
    · rw [look, if_neg e] at h
      exact List.mem_cons_of_mem _ (look_mem h)
section
variable {P : Program} {w : World} {K : PySem.W.Frag} {mg : Str → Option Value} {base : Heap}
theorem ok_held {f fS : Addr} {fd fdS : FuncData} (F : Fun K "_law_held" "_law_held" sHeld f fd) (GS : FnOk P w K mg base CX0 1 fS fdS ["scope"] spSeen) (bS : Binds K fdS ["scope"] []) (kS : PySem.W.keepIn K (.ref fS) = true) (mS : mg "_law_seen" = some (.ref fS)) :
    FnOk P w K mg base CX0 2 f fd ["kind", "scope"] spHeld := by
  refine F.ok scHeld (fun vs H Q E h => ?_) (fun cdv A outer s H vs Q E hr h => ?_)
  · obtain ⟨kv, a, k, Γ, rfl, _⟩ := h
    rfl
  obtain ⟨kv, a, k, Γ, rfl, hk, hG, hz, hT, hA, q⟩ := h
  have hu : (A.deeper (envOfC "_law_held" (defScope sHeld) s.heap.objs.size f cdv)).units + 200 < cLine := by have := hr.un; omega
  refine ⟨_, pss_cons (ps_set (i := 2) scHeld.nd rfl (.inl rfl) (pe_lst pa_nil))
    (pss_cons (ps_for PassesOwn.never rfl (pi_list (pe_call GS hr rfl mS kS bS .nil pass0 (pa_cons (pv 1) pa_nil))) (pg_tup rfl (pgs_cons (pg_name (i := 3) scHeld.nd rfl (.inr rfl)) (pgs_cons (pg_name (i := 4) scHeld.nd rfl (.inl rfl)) pgs_nil)))
      (pss_cons (ps_if (pt_cmpR (op_eqP hu) (pv 4) (pv 0) (nomark _))
        (pss_one (ps_expr (pe_bm PySem.F.plainAttrs_list PySem.F.slot_list_append PySem.F.type_list_append mt_append (pv 2) (pa_cons (pe_tupF (pa_cons pe_str (pa_cons (pv 3) pa_nil))) pa_nil)))) pss_nil)
      (pss_one (ps_if (pt_cmpR op_eq (pe_ix ix_tup (pv 4) pe_int (fun _ _ => rfl)) pe_str (nomark _))
        (pss_one (ps_set (i := 2) scHeld.nd rfl (.inl rfl) (pe_op op_cat (pv 2)
          (pe_lc (own := [("field", 5), ("part", 6)]) (g := gTup K 2 (gCons (gName 5) (gCons (gName 6) gNil))) (tt := tTest (tOp (rEqP K) (tVar 6) (tVar 0))) rfl scHeld.nd (pi_tup (pe_ix ix_tup (pv 4) pe_int (fun _ _ => rfl))) (blkOk_by (N := nHeld) (sc := defScope sHeld) (by decide +kernel))
            (fun _ _ _ _ _ => pg_tup rfl (pgs_cons (pg_name (i := 5) scHeld.nd rfl (.inl rfl)) (pgs_cons (pg_name (i := 6) scHeld.nd rfl (.inl rfl)) pgs_nil)))
            (fun _ _ _ _ _ => pts_one (pt_cmpR (op_eqPK K hu) (pv 6) (pv 0) (nomark _)))
            (fun _ _ _ _ _ => pe_tupF (pa_cons pe_str (pa_cons (pv 5) (pa_cons (pe_tupF (pa_cons pe_str (pa_cons (pv 3) pa_nil))) pa_nil)))))))) pss_nil))))
    (pss_one (ps_ret (pv 2)))), ?_⟩
  refine ⟨Nat.zero_le _, fun co hco => ?_⟩
  have s0 : Same H (upd H co (.lst [])) := same_new hco _
  refine ⟨_, rfl, a, Γ, rfl, hA.mono s0, hz, fun pl H2 ts its s1 hpl hL hI hlk hil => ?_⟩
  have s2 := s0.trans s1
  have hlen : ts.length = its.length := Paired.length hI
  have hco2 : H2 co = some (.lst []) := s1 _ _ upd_same
  have hne : pl ≠ co := (ne_of_none upd_same hpl).symm
  refine ⟨pl, rfl, ⟨ts, SqL.of hL⟩, ?_⟩
  refine for_list (xs := ts) (fun i σ H4 => ∃ cw qs y3 y4, σ = [some kv, some (.ref a), some (.ref cw), y3, y4, none, none] ∧ (∀ b o, b ≠ co → H2 b = some o → b ≠ cw) ∧ (∀ b o, b ≠ co → H2 b = some o → H4 b = some o) ∧
      LT H4 cw (qs.map N97.Q.enc) ∧ (∀ q ∈ qs, Held Γ k q) ∧ qs.length ≤ 5 * i)
    ⟨co, [], none, none, rfl, (fun b o h _ => h), fun _ _ _ e => e, ⟨[], hco2, .nil⟩, (fun q h => nomatch h), Nat.le_refl _⟩ (fun i σ H4 _ p => ?_) (fun i x σ H4 hx p => ?_) (fun σ H4 p => ?_)
  · obtain ⟨_, _, _, _, _, _, r4, _⟩ := p
    exact SqL.of (r4 _ _ hne hL)
  · obtain ⟨cw, qs, y3, y4, rfl, hcw, r4, ⟨wx, hW, tW⟩, hqs, hql⟩ := p
    have f24 : FS H2 H4 := fun b o u e => r4 b _ (ne_of e hco2 (by intro z; cases z)) e
    obtain ⟨⟨n, kn⟩, ei, it⟩ := paired_at hI hx
    obtain ⟨t, u, rfl, h1, h2⟩ := it
    have h1' : H4 t = some (.tup [.str n, u]) := r4 _ _ (ne_of h1 hco2 (by intro z; cases z)) h1
    have h2' : Tp H4 u kn.enc := h2.mono f24
    have hlook : look n Γ = some kn := hlk _ (List.mem_of_getElem? ei)
    have hkn : kn.rank ≤ 8 := hG _ (look_mem hlook)
    have hkv : Tp H4 kv k.enc := hT.mono (s2.fs.trans f24)
    have hi : i < 64 := by
      have := (List.getElem?_eq_some_iff.mp hx).1
      omega
    refine ⟨t, _, rfl, SqT.of h1', rfl, _, _, rfl, _, _, rfl, rfl, ?_⟩
    refine ⟨_, rfl, _, rfl, kn.enc, k.enc, h2', hkv, ?_, fun b hb => ⟨_, rfl, ?_⟩⟩
    · have := kd_depth kn
      omega
    cases b with
    | true =>
      have ek : kn = k := Kd.enc_inj (hb.mp rfl)
      refine iteT ?_
      refine ⟨_, rfl, .inl ⟨rfl, _, .inl (.inl hW)⟩, _, rfl, two_le, fun p o hp no => ?_⟩
      have s5 := same_new hp (.frz o (.tup [.str "var", .str n]))
      refine ⟨cw, wx, _, rfl, rfl, s5 _ _ hW, by rw [tW.len, List.length_map, sizeLine_eq]; omega, ?_⟩
      have LT5 : LT (upd (upd H4 p (.frz o (.tup [.str "var", .str n]))) cw (.lst (wx ++ [.ref p]))) cw ((qs ++ [N97.Q.var n]).map N97.Q.enc) := by
        refine ⟨_, upd_same, ?_⟩
        rw [List.map_append]
        exact ((tW.mono s5.fs).snoc (.new hp no (.cons (.str _) (.cons (.str _) .nil)))).mono (fs_lst (s5 _ _ hW))
      have F45 : FS H4 (upd (upd H4 p (.frz o (.tup [.str "var", .str n]))) cw (.lst (wx ++ [.ref p]))) := s5.fs.trans (fs_lst (s5 _ _ hW))
      have r5 : ∀ b u, b ≠ co → H2 b = some u → (upd (upd H4 p (.frz o (.tup [.str "var", .str n]))) cw (.lst (wx ++ [.ref p]))) b = some u := fun b u hb e => by
        rw [upd_ne (hcw b u hb e)]
        exact s5 _ _ (r4 b u hb e)
      generalize (upd (upd H4 p (.frz o (.tup [.str "var", .str n]))) cw (.lst (wx ++ [.ref p]))) = H5 at LT5 F45 r5 ⊢
      have hq2 : ∀ q ∈ qs ++ [N97.Q.var n], Held Γ k q := fun q hq => by
        rcases List.mem_append.mp hq with hq | hq
        · exact hqs q hq
        · obtain rfl := List.mem_singleton.mp hq
          exact .inl ⟨n, by rw [← ek]; exact hlook, rfl⟩
      have hl2 : (qs ++ [N97.Q.var n]).length ≤ 5 * i + 1 := by rw [List.length_append]; exact Nat.succ_le_succ hql
      generalize qs ++ [N97.Q.var n] = qs2 at LT5 hq2 hl2
      have f45 : FS H4 H5 := F45
      have hzz : qs2.length ≤ 5 * i + 1 := hl2
      rcases kn.row_or with ⟨etag, hfne, hf4⟩ | etag
      · have h3 := h2'.mono f45
        rw [Kd.fields_enc hfne] at h3
        obtain ⟨tu, y0, y1, rfl, g0, w0, w1⟩ := h3.i2
        obtain rfl := w0.strI
        obtain ⟨fb, xs, rfl, gb, tb⟩ := w1.tupI
        have hxl : xs.length = kn.fields.length := by rw [tb.len, List.length_map]
        refine ⟨_, rfl, tu, _, 0, _, rfl, rfl, g0.sq, rfl, rfl, _, rfl, iteT ?_⟩
        refine ⟨_, rfl, _, rfl, tu, _, 1, _, rfl, rfl, g0.sq, rfl, fb, rfl, ⟨xs, gb.sq⟩, fun D hD => ?_⟩
        refine lc_tup (xs := xs) (fun j H6 => Same H5 H6 ∧ ∃ acc qs3, H6 D = some (.lst acc) ∧ TpAll H6 acc (qs3.map N97.Q.enc) ∧ (∀ q ∈ qs3, Held Γ k q) ∧ qs3.length ≤ j)
          ⟨same_new hD _, [], [], upd_same, .nil, (fun q h => nomatch h), Nat.le_refl _⟩ (fun j H6 _ p => (gb.mono p.1.fs).sq) (fun j x H6 hx6 p => ?_) (fun H6 p => ?_)
        · obtain ⟨s6, acc, qs3, hA6, tA6, hq3, hl3⟩ := p
          obtain ⟨d, ed, td⟩ := tb.get hx6
          rw [List.getElem?_map] at ed
          obtain ⟨⟨fn, fk⟩, efk, rfl⟩ := Option.map_eq_some_iff.mp ed
          have hfm := List.mem_of_getElem? efk
          have hfr := fields_rank hfm
          obtain ⟨a2, u0, u1, rfl, f2, v0, v1⟩ := (td.mono s6.fs).i2
          obtain rfl := v0.strI
          have hj : j < 4 := by
            have := (List.getElem?_eq_some_iff.mp hx6).1
            omega
          refine ⟨a2, _, rfl, f2.sq, rfl, _, _, rfl, _, _, rfl, rfl, rfl, ?_⟩
          refine ⟨_, rfl, _, rfl, fk.enc, k.enc, v1, (hkv.mono f45).mono s6.fs, ?_, fun b hb => ⟨_, rfl, ?_⟩⟩
          · have := kd_depth fk
            have hfr' : fk.rank < kn.rank := hfr
            omega
          cases b with
          | false => exact iteF ⟨s6, acc, qs3, hA6, tA6, hq3, by omega⟩
          | true =>
            have ek : fk = k := Kd.enc_inj (hb.mp rfl)
            refine iteT ⟨_, rfl, _, rfl, two_le, fun p1 o1 hp1 no1 => ⟨three_le, fun p2 o2 hp2 no2 => ?_⟩⟩
            have s7 := (same_new hp1 (.frz o1 (.tup [.str "var", .str n]))).trans (same_new hp2 (.frz o2 (.tup [.str "at", .str fn, .ref p1])))
            refine ⟨acc, s7 _ _ hA6, ?_, fun b o e => ?_, acc ++ [.ref p2], qs3 ++ [.att fn (.var n)], upd_same, ?_, fun q hq => ?_, by rw [List.length_append]; exact Nat.succ_le_succ hl3⟩
            · rw [tA6.len, List.length_map, sizeLine_eq]
              omega
            · rw [upd_ne (ne_of_none e hD)]
              exact s7 _ _ (s6 _ _ e)
            · rw [List.map_append]
              refine ((tA6.mono s7.fs).snoc ?_).mono (fs_lst (s7 _ _ hA6))
              exact .new hp2 no2 (.cons (.str _) (.cons (.str _) (.cons (.new hp1 no1 (.cons (.str _) (.cons (.str _) .nil))) .nil)))
            · rcases List.mem_append.mp hq with hq | hq
              · exact hq3 q hq
              · obtain rfl := List.mem_singleton.mp hq
                exact .inr ⟨n, kn, fn, hlook, by rw [← ek]; exact hfm, rfl⟩
        · obtain ⟨s6, acc, qs3, hA6, tA6, hq3, hl3⟩ := p
          obtain ⟨wx5, hW5, tW5⟩ := LT5
          have hl3' : qs3.length ≤ 4 := by omega
          refine ⟨cw, D, wx5, acc, rfl, rfl, s6 _ _ hW5, hA6, ?_, fun p hp => ?_⟩
          · rw [tW5.len, tA6.len, List.length_map, List.length_map, sizeLine_eq]
            omega
          · have s7 := same_new hp (.lst (wx5 ++ acc))
            refine ⟨p, qs2 ++ qs3, _, _, rfl, fun b o hb e => ne_of_none (s6 _ _ (r5 b o hb e)) hp, fun b o hb e => s7 _ _ (s6 _ _ (r5 b o hb e)), ⟨_, upd_same, ?_⟩, fun q hq => ?_, by rw [List.length_append]; omega⟩
            · rw [List.map_append]
              exact ((tW5.mono s6.fs).app tA6).mono s7.fs
            · rcases List.mem_append.mp hq with hq | hq
              · exact hq2 q hq
              · exact hq3 q hq
      · obtain ⟨tu, tr, rfl, ftu⟩ := (h2'.mono f45).tag
        have e0 : decide (V.str kn.tag = V.str "row") = false := decide_eq_false fun z => etag (V.str.inj z)
        refine ⟨_, rfl, tu, _, 0, _, rfl, rfl, ftu.sq, atI0, rfl, _, rfl, iteFe e0 ?_⟩
        exact ⟨cw, qs2, _, _, rfl, hcw, r5, LT5, hq2, by omega⟩
    | false =>
      refine iteF ?_
      have LT5 : LT H4 cw (qs.map N97.Q.enc) := ⟨wx, hW, tW⟩
      have F45 : FS H4 H4 := .refl H4
      have r5 := r4
      have hq2 := hqs
      have hl2 : qs.length ≤ 5 * i + 1 := Nat.le_succ_of_le hql
      have f44 : FS H4 H4 := F45
      have hzz : qs.length ≤ 5 * i + 1 := hl2
      rcases kn.row_or with ⟨etag, hfne, hf4⟩ | etag
      · have h3 := h2'.mono f44
        rw [Kd.fields_enc hfne] at h3
        obtain ⟨tu, y0, y1, rfl, g0, w0, w1⟩ := h3.i2
        obtain rfl := w0.strI
        obtain ⟨fb, xs, rfl, gb, tb⟩ := w1.tupI
        have hxl : xs.length = kn.fields.length := by rw [tb.len, List.length_map]
        refine ⟨_, rfl, tu, _, 0, _, rfl, rfl, g0.sq, rfl, rfl, _, rfl, iteT ?_⟩
        refine ⟨_, rfl, _, rfl, tu, _, 1, _, rfl, rfl, g0.sq, rfl, fb, rfl, ⟨xs, gb.sq⟩, fun D hD => ?_⟩
        refine lc_tup (xs := xs) (fun j H6 => Same H4 H6 ∧ ∃ acc qs3, H6 D = some (.lst acc) ∧ TpAll H6 acc (qs3.map N97.Q.enc) ∧ (∀ q ∈ qs3, Held Γ k q) ∧ qs3.length ≤ j)
          ⟨same_new hD _, [], [], upd_same, .nil, (fun q h => nomatch h), Nat.le_refl _⟩ (fun j H6 _ p => (gb.mono p.1.fs).sq) (fun j x H6 hx6 p => ?_) (fun H6 p => ?_)
        · obtain ⟨s6, acc, qs3, hA6, tA6, hq3, hl3⟩ := p
          obtain ⟨d, ed, td⟩ := tb.get hx6
          rw [List.getElem?_map] at ed
          obtain ⟨⟨fn, fk⟩, efk, rfl⟩ := Option.map_eq_some_iff.mp ed
          have hfm := List.mem_of_getElem? efk
          have hfr := fields_rank hfm
          obtain ⟨a2, u0, u1, rfl, f2, v0, v1⟩ := (td.mono s6.fs).i2
          obtain rfl := v0.strI
          have hj : j < 4 := by
            have := (List.getElem?_eq_some_iff.mp hx6).1
            omega
          refine ⟨a2, _, rfl, f2.sq, rfl, _, _, rfl, _, _, rfl, rfl, rfl, ?_⟩
          refine ⟨_, rfl, _, rfl, fk.enc, k.enc, v1, (hkv.mono f44).mono s6.fs, ?_, fun b hb => ⟨_, rfl, ?_⟩⟩
          · have := kd_depth fk
            have hfr' : fk.rank < kn.rank := hfr
            omega
          cases b with
          | false => exact iteF ⟨s6, acc, qs3, hA6, tA6, hq3, by omega⟩
          | true =>
            have ek : fk = k := Kd.enc_inj (hb.mp rfl)
            refine iteT ⟨_, rfl, _, rfl, two_le, fun p1 o1 hp1 no1 => ⟨three_le, fun p2 o2 hp2 no2 => ?_⟩⟩
            have s7 := (same_new hp1 (.frz o1 (.tup [.str "var", .str n]))).trans (same_new hp2 (.frz o2 (.tup [.str "at", .str fn, .ref p1])))
            refine ⟨acc, s7 _ _ hA6, ?_, fun b o e => ?_, acc ++ [.ref p2], qs3 ++ [.att fn (.var n)], upd_same, ?_, fun q hq => ?_, by rw [List.length_append]; exact Nat.succ_le_succ hl3⟩
            · rw [tA6.len, List.length_map, sizeLine_eq]
              omega
            · rw [upd_ne (ne_of_none e hD)]
              exact s7 _ _ (s6 _ _ e)
            · rw [List.map_append]
              refine ((tA6.mono s7.fs).snoc ?_).mono (fs_lst (s7 _ _ hA6))
              exact .new hp2 no2 (.cons (.str _) (.cons (.str _) (.cons (.new hp1 no1 (.cons (.str _) (.cons (.str _) .nil))) .nil)))
            · rcases List.mem_append.mp hq with hq | hq
              · exact hq3 q hq
              · obtain rfl := List.mem_singleton.mp hq
                exact .inr ⟨n, kn, fn, hlook, by rw [← ek]; exact hfm, rfl⟩
        · obtain ⟨s6, acc, qs3, hA6, tA6, hq3, hl3⟩ := p
          obtain ⟨wx5, hW5, tW5⟩ := LT5
          have hl3' : qs3.length ≤ 4 := by omega
          refine ⟨cw, D, wx5, acc, rfl, rfl, s6 _ _ hW5, hA6, ?_, fun p hp => ?_⟩
          · rw [tW5.len, tA6.len, List.length_map, List.length_map, sizeLine_eq]
            omega
          · have s7 := same_new hp (.lst (wx5 ++ acc))
            refine ⟨p, qs ++ qs3, _, _, rfl, fun b o hb e => ne_of_none (s6 _ _ (r5 b o hb e)) hp, fun b o hb e => s7 _ _ (s6 _ _ (r5 b o hb e)), ⟨_, upd_same, ?_⟩, fun q hq => ?_, by rw [List.length_append]; omega⟩
            · rw [List.map_append]
              exact ((tW5.mono s6.fs).app tA6).mono s7.fs
            · rcases List.mem_append.mp hq with hq | hq
              · exact hq2 q hq
              · exact hq3 q hq
      · obtain ⟨tu, tr, rfl, ftu⟩ := (h2'.mono f44).tag
        have e0 : decide (V.str kn.tag = V.str "row") = false := decide_eq_false fun z => etag (V.str.inj z)
        refine ⟨_, rfl, tu, _, 0, _, rfl, rfl, ftu.sq, atI0, rfl, _, rfl, iteFe e0 ?_⟩
        exact ⟨cw, qs, _, _, rfl, hcw, r5, LT5, hq2, by omega⟩
  · obtain ⟨cw, qs, y3, y4, rfl, hcw, r4, hL4, hqs, hql⟩ := p
    exact ⟨_, rfl, q cw H4 qs (fun b o e => r4 b o (ne_of_none e hco) (s2 _ _ e)) hL4 hqs (by omega)⟩
end
end N97

/-! KaW9 -/
set_option maxRecDepth 100000
set_option maxHeartbeats 8000000
namespace N97
open PySem PySem.Spec PyProof.Rows L2

theorem Q.enc_tup (q : N97.Q) : ∃ xs, q.enc = .tuple xs := by cases q <;> exact ⟨_, rfl⟩
theorem LT.ne_sd {H : Hp} {a sd : Addr} {ds : List PyData} (h : LT H a ds) (s : Sd H sd) (ht : ∀ d ∈ ds, ∃ xs, d = .tuple xs) : a ≠ sd := fun e => by
  subst e
  obtain ⟨xs, e1, t⟩ := h
  obtain ⟨n, f, c, m, e2⟩ := s
  rw [e1] at e2
  cases e2
  cases t with
  | @cons _ _ d ds t1 t2 =>
    obtain ⟨xs, e⟩ := ht d (List.mem_cons_self ..)
    rw [e] at t1
    cases t1
theorem tup_qs {qs : List N97.Q} : ∀ d ∈ qs.map N97.Q.enc, ∃ xs, d = .tuple xs := fun d hd => by
  obtain ⟨q, _, rfl⟩ := List.mem_map.mp hd
  exact Q.enc_tup q
theorem tup_cs {Γ : Ctx} : ∀ d ∈ Γ.map cdat, ∃ xs, d = .tuple xs := fun d hd => by
  obtain ⟨q, _, rfl⟩ := List.mem_map.mp hd
  exact ⟨_, rfl⟩
/-- an item of a list of questions -/
theorem LT.item {α : Type} {H : Hp} {a : Addr} {f : α → PyData} {qs : List α} {r : Int} (h : LT H a (qs.map f)) (h0 : 0 ≤ r) (h1 : r < (qs.length : Int)) : ∃ xs v q, H a = some (.lst xs) ∧ atI xs r = some v ∧ q ∈ qs ∧ Tp H v (f q) := by
  obtain ⟨xs, e, t⟩ := h
  obtain ⟨j, rfl⟩ : ∃ j : Nat, r = (j : Int) := ⟨r.toNat, by omega⟩
  have hj : j < qs.length := by omega
  obtain ⟨v, hv, tv⟩ := t.at (i := j) (d := f qs[j]) (by rw [List.getElem?_map, List.getElem?_eq_getElem hj]; rfl)
  exact ⟨xs, v, qs[j], e, atI_nat hv, List.getElem_mem hj, tv⟩
theorem LT.xs {H : Hp} {a : Addr} {ds : List PyData} (h : LT H a ds) : ∃ xs, H a = some (.lst xs) ∧ xs.length = ds.length := let ⟨xs, e, t⟩ := h; ⟨xs, e, t.len⟩
theorem ask_lim (k : Kd) (f : Nat) : (Mode.ask k).lim f ≤ 20 * f + (2 * k.rank + 2) := by
  cases k <;> simp only [Mode.lim, Kd.rank] <;> omega
def CO (Γ : Ctx) (f : Nat) : Prop := Γ.length + f ≤ 60 ∧ ∀ p ∈ Γ, p.2.rank ≤ 5
theorem CO.mono {Γ : Ctx} {f g : Nat} (h : CO Γ f) (l : g ≤ f) : CO Γ g := ⟨by have := h.1; omega, h.2⟩

theorem with_rest {G : Prop} (R : Hp → Prop) (Ok : Hp → Prop) (m : (∀ H2, Ok H2 → R H2) → G) (r : ∀ H2, Ok H2 → R H2) : G := m r
abbrev sSml : Stmt := topS 22
abbrev sClm : Stmt := topS 23
abbrev nSml : List Str := ["kind", "scope", "fuel", "seed", "ways", "one", "field", "part"]
abbrev nClm : List Str := ["scope", "fuel", "seed", "way", "one", "kind", "word"]
theorem scSml : FnScope nSml ["kind", "scope", "fuel", "seed"] (defScope sSml) := ⟨rfl, rfl, rfl, by decide +kernel, rfl, by decide +kernel, by decide +kernel⟩
theorem scClm : FnScope nClm ["scope", "fuel", "seed"] (defScope sClm) := ⟨rfl, rfl, rfl, by decide +kernel, rfl, by decide +kernel, by decide +kernel⟩
def spSml (n : Nat) : Sp := fun vs H Q _ => ∃ (kv : V) (a sd : Addr) (f : Int) (k : Kd) (Γ : Ctx), vs = [kv, .ref a, .int f, .ref sd] ∧ (Mode.sml k).lim f.toNat ≤ n ∧ k.rank ≤ 5 ∧ CO Γ f.toNat ∧ Tp H kv k.enc ∧ LT H a (Γ.map cdat) ∧ Sd H sd ∧
  ∀ r H' q, SX sd H H' → Tp H' r (N97.Q.enc q) → Gen (.sml k) Γ f.toNat q → Q r H'
def spAsk (n : Nat) : Sp := fun vs H Q _ => ∃ (kv : V) (a sd : Addr) (f : Int) (k : Kd) (Γ : Ctx), vs = [kv, .ref a, .int f, .ref sd] ∧ (Mode.ask k).lim f.toNat ≤ n ∧ k.rank ≤ 5 ∧ CO Γ f.toNat ∧ Tp H kv k.enc ∧ LT H a (Γ.map cdat) ∧ Sd H sd ∧
  ∀ r H' q, SX sd H H' → Tp H' r (N97.Q.enc q) → Gen (.ask k) Γ f.toNat q → Q r H'
def spClm (n : Nat) : Sp := fun vs H Q _ => ∃ (a sd : Addr) (f : Int) (Γ : Ctx), vs = [.ref a, .int f, .ref sd] ∧ Mode.clm.lim f.toNat ≤ n ∧ CO Γ f.toNat ∧ LT H a (Γ.map cdat) ∧ Sd H sd ∧
  ∀ r H' q, SX sd H H' → Tp H' r (N97.Q.enc q) → Gen .clm Γ f.toNat q → Q r H'
def spOvr (n : Nat) : Sp := fun vs H Q _ => ∃ (a sd : Addr) (f : Int) (Γ : Ctx), vs = [.ref a, .int f, .ref sd] ∧ 20 * f.toNat + 2 ≤ n ∧ CO Γ f.toNat ∧ LT H a (Γ.map cdat) ∧ Sd H sd ∧
  ∀ r H' q k, SX sd H H' → Tp H' r (.tuple [N97.Q.enc q, (Kd.bag k).enc]) → k.rank ≤ 4 → Gen (.ovr k) Γ f.toNat q → Q r H'
def spTak (n : Nat) : Sp := fun vs H Q _ => ∃ (kv : V) (a sd : Addr) (f : Int) (k : Kd) (Γ : Ctx), vs = [kv, .ref a, .int f, .ref sd] ∧ 20 * f.toNat + (2 * k.rank + 1) ≤ n ∧ 0 < f ∧ (Kd.bag k).rank ≤ 5 ∧ CO Γ f.toNat ∧ Tp H kv (Kd.bag k).enc ∧ LT H a (Γ.map cdat) ∧ Sd H sd ∧
  ∀ r H' q, SX sd H H' → Tp H' r (N97.Q.enc q) → Gen (.ask (.bag k)) Γ f.toNat q → Q r H'
section
variable {P : Program} {w : World} {K : PySem.W.Frag} {mg : Str → Option Value} {base : Heap}
theorem ok_sml1 {n : Nat} {f fH fA fD fV : Addr} {fd fdH fdA fdD fdV : FuncData} (F : Fun K "_law_small" "_law_small" sSml f fd)
    (GS : FnOk P w K mg base CX0 (n + 20) f fd ["kind", "scope", "fuel", "seed"] (spSml n)) (bS : Binds K fd ["kind", "scope", "fuel", "seed"] []) (mS : mg "_law_small" = some (.ref f))
    (GA : FnOk P w K mg base CX0 (n + 20) fA fdA ["kind", "scope", "fuel", "seed"] (spAsk n)) (bA : Binds K fdA ["kind", "scope", "fuel", "seed"] []) (kA : PySem.W.keepIn K (.ref fA) = true) (mA : mg "_law_asked" = some (.ref fA))
    (GH : FnOk P w K mg base CX0 2 fH fdH ["kind", "scope"] spHeld) (bH : Binds K fdH ["kind", "scope"] []) (kH : PySem.W.keepIn K (.ref fH) = true) (mH : mg "_law_held" = some (.ref fH))
    (GV : FnOk P w K mg base CX0 17 fV fdV ["kind", "seed", "deep"] (spVal 8)) (bV : Binds K fdV ["kind", "seed", "deep"] []) (kV : PySem.W.keepIn K (.ref fV) = true) (mV : mg "_law_value" = some (.ref fV))
    (GD : FnOk P w K mg base CX0 1 fD fdD ["seed", "most"] spDraw) (bD : Binds K fdD ["seed", "most"] []) (kD : PySem.W.keepIn K (.ref fD) = true) (mD : mg "_law_draw" = some (.ref fD))
    (ml : mg "len" = none) (mt : mg "tuple" = none) :
    FnOk P w K mg base CX0 (n + 21) f fd ["kind", "scope", "fuel", "seed"] (spSml (n + 1)) := by
  refine F.ok scSml (fun vs H Q E h => ?_) (fun cdv A outer s H vs Q E hr h => ?_)
  · obtain ⟨kv, a, sd, f, k, Γ, rfl, _⟩ := h
    rfl
  obtain ⟨kv, a, sd, f, k, Γ, rfl, hn, hk, hG, hT, hA, hS, q⟩ := h
  have hr1 := hr.mono (show 1 ≤ n + 20 by omega)
  refine ⟨_, pss_cons (ps_set (i := 4) scSml.nd rfl (.inl rfl) (pe_call GH (hr.mono (by omega)) rfl mH kH bH .nil pass0 (pa_cons (pv 0) (pa_cons (pv 1) pa_nil))))
    (pss_cons (ps_if (PW.pt (pw_and (pt_cmpR (op_neNil hr.units0) (pv 4) (pe_lst pa_nil) (nomark _)) (pw_and1 (pt_cmpR op_gt (pe_call GD hr1 rfl mD kD bD .nil pass0 (pa_cons (pv 3) (pa_cons pe_int pa_nil))) pe_int (nomark _)))))
      (pss_one (ps_ret (pe_ix ix_list (pv 4) (pe_call GD hr1 rfl mD kD bD .nil pass0 (pa_cons (pv 3) (pa_cons (pe_callB call_len_seq (by rfl) ml PySem.boot_len (pa_cons (pv 4) pa_nil)) pa_nil))) (fun _ _ => rfl)))) pss_nil)
    (pss_cons (ps_if (pt_cmpR op_eq (pe_ix ix_tup (pv 0) pe_int (fun _ _ => rfl)) pe_str (nomark _))
      (pss_one (ps_ret (pe_call GA hr rfl mA kA bA .nil pass0 (pa_cons (pv 0) (pa_cons (pv 1) (pa_cons (pe_op op_sub (pv 2) pe_int) (pa_cons (pv 3) pa_nil))))))) pss_nil)
    (pss_cons (ps_if (pt_cmpR op_eq (pe_ix ix_tup (pv 0) pe_int (fun _ _ => rfl)) pe_str (nomark _))
      (pss_one (ps_ret (pe_tupF (pa_cons pe_str (pa_cons (pe_callTy call_tupleF (by rfl) mt (by decide +kernel) (pa_cons
        (pe_lc (own := [("field", 6), ("part", 7)]) (g := gTup K 2 (gCons (gName 6) (gCons (gName 7) gNil))) (tt := tYes) rfl scSml.nd (pi_tup (pe_ix ix_tup (pv 0) pe_int (fun _ _ => rfl))) (blkOk_by (N := nSml) (sc := defScope sSml) (by decide +kernel))
          (fun _ _ _ _ _ => pg_tup rfl (pgs_cons (pg_name (i := 6) scSml.nd rfl (.inl rfl)) (pgs_cons (pg_name (i := 7) scSml.nd rfl (.inl rfl)) pgs_nil))) (fun _ _ _ _ _ => pts_nil)
          (fun _ _ _ _ _ => pe_tupF (pa_cons (pv 6) (pa_cons (pe_call GA hr rfl mA kA bA .nil pass0 (pa_cons (pv 7) (pa_cons (pv 1) (pa_cons (pe_op op_sub (pv 2) pe_int) (pa_cons (pv 3) pa_nil))))) pa_nil)))) pa_nil)) pa_nil))))) pss_nil)
    (pss_cons (ps_if (PW.pt (pw_and (pt_cmpR op_eq (pe_ix ix_tup (pv 0) pe_int (fun _ _ => rfl)) pe_str (nomark _)) (pw_and (pt_cmpR op_gt (pv 2) pe_int (nomark _)) (pw_and1 (pt_cmpR op_eq (pe_call GD hr1 rfl mD kD bD .nil pass0 (pa_cons (pv 3) (pa_cons pe_int pa_nil))) pe_int (nomark _))))))
      (pss_cons (ps_set (i := 5) scSml.nd rfl (.inl rfl) (pe_call GS hr rfl mS F.kp bS .nil pass0 (pa_cons (pv 0) (pa_cons (pv 1) (pa_cons (pe_op op_sub (pv 2) pe_int) (pa_cons (pv 3) pa_nil))))))
      (pss_one (ps_ret (pe_tupF (pa_cons (pe_ix ix_list (pe_lst (pa_cons pe_str (pa_cons pe_str pa_nil))) (pe_call GD hr1 rfl mD kD bD .nil pass0 (pa_cons (pv 3) (pa_cons pe_int pa_nil))) (fun _ _ => rfl))
        (pa_cons (pv 5) (pa_cons (pe_call GS hr rfl mS F.kp bS .nil pass0 (pa_cons (pv 0) (pa_cons (pv 1) (pa_cons (pe_op op_sub (pv 2) pe_int) (pa_cons (pv 3) pa_nil))))) pa_nil))))))) pss_nil)
    (pss_one (ps_ret (pe_call GV (hr.mono (by omega)) rfl mV kV bV .nil pass0 (pa_cons (pv 0) (pa_cons (pv 3) (pa_cons pe_int pa_nil)))))))))), ?_⟩
  have ha : a ≠ sd := hA.ne_sd hS tup_cs
  refine ⟨_, rfl, _, rfl, kv, a, k, Γ, rfl, by omega, fun p hp => Nat.le_trans (hG.2 p hp) (by decide), by have := hG.1; omega, hT, hA, fun wa H1 qs s1 hW hqs hql => ?_⟩
  have x1 := SX.ofSame hS s1
  obtain ⟨wx, hw1, hwl⟩ := hW.xs
  rw [List.length_map] at hwl
  apply with_rest (Ok := fun H2 => SX sd H H2)
  case m =>
    intro rest
    refine ⟨_, rfl, Nat.zero_le _, fun e0 he0 => ?_⟩
    have s2 := same_new he0 (.lst [])
    have x2 := x1.same s2
    refine ⟨wa, e0, wx, rfl, rfl, SqL.of (s2 _ _ hw1), SqL.of upd_same, _, rfl, ?_⟩
    cases hwx : wx with
    | cons w0 wr =>
      refine iteT ?_
      refine ⟨_, rfl, sd, 4, rfl, x2.2, by decide, by decide, fun r3 H3 h30 h31 x3 => ?_⟩
      have x3' := x2.trans x3
      have hwsd : wa ≠ sd := hW.ne_sd x1.2 tup_qs
      have hw3 : LT H3 wa (qs.map N97.Q.enc) := x3.lt x2.2 hwsd (hW.mono s2)
      have hqp : 0 < qs.length := by rw [← hwl, hwx]; exact Nat.succ_pos _
      refine ⟨_, _, rfl, rfl, _, rfl, ?_⟩
      refine ite2 (fun c => ?_) (fun c => rest _ x3')
      obtain ⟨wx3, hw3e, hw3l⟩ := hw3.xs
      rw [List.length_map] at hw3l
      refine ⟨_, rfl, _, rfl, _, rfl, wa, _, rfl, .inl (SqL.of hw3e), sd, _, rfl, x3'.2, by rw [hw3l]; omega, by rw [hw3l]; omega, fun r4 H4 h40 h41 x4 => ?_⟩
      rw [hw3l] at h41
      obtain ⟨xs, v, q0, e1, e2, e3, e4⟩ := (x4.lt x3'.2 hwsd hw3).item h40 h41
      exact ⟨wa, xs, _, v, rfl, rfl, SqL.of e1, e2, q _ _ q0 (x3'.trans x4) e4 (.held (hqs q0 e3))⟩
    | nil => exact iteF (iteF (rest _ x2))
  case r =>
    intro H2 x2
    have f2 := x2.fs hS
    have hA2 := x2.lt hS ha hA
    cases k with
    | bag k' =>
      obtain ⟨t, x0, y1, rfl, f0, t0, t1⟩ := (hT.mono f2).i2
      obtain rfl := t0.strI
      refine ⟨_, rfl, t, _, 0, _, rfl, rfl, f0.sq, rfl, rfl, _, rfl, iteT ?_⟩
      refine ⟨_, rfl, _, rfl, _, rfl, _, _, rfl, rfl, _, rfl, ?_⟩
      have e1 : (f - 1).toNat = f.toNat - 1 := by omega
      refine ⟨_, a, sd, f - 1, .bag k', Γ, rfl, ?_, hk, by rw [e1]; exact hG.mono (by omega), hT.mono f2, hA2, x2.2, fun r H3 q3 x3 t3 g3 => q r H3 q3 (x2.trans x3) t3 (.sbag (by rw [← e1]; exact g3))⟩
      simp only [Mode.lim, Kd.rank] at hn ⊢
      omega
    | num =>
      obtain ⟨t, x0, rfl, f0, t0⟩ := (hT.mono f2).i1
      obtain rfl := t0.strI
      refine ⟨_, rfl, t, _, 0, _, rfl, rfl, f0.sq, rfl, rfl, _, rfl, iteF ?_⟩
      refine ⟨_, rfl, t, _, 0, _, rfl, rfl, f0.sq, rfl, rfl, _, rfl, iteF ?_⟩
      apply with_rest (Ok := fun H3 => SX sd H H3)
      case m =>
        intro rest
        refine ⟨_, rfl, t, _, 0, _, rfl, rfl, f0.sq, rfl, rfl, _, rfl, iteT ?_⟩
        refine ⟨_, rfl, _, _, rfl, rfl, _, rfl, ?_⟩
        refine ite2 (fun cf => ?_) (fun cf => iteF (rest _ x2))
        have hf : 0 < f := of_decide_eq_true cf
        refine ⟨_, rfl, sd, 3, rfl, x2.2, by decide, by decide, fun r3 H3 h30 h31 x3 => ⟨rfl, _, rfl, ?_⟩⟩
        have x3' := x2.trans x3
        refine ite2 (fun cd => ?_) (fun cd => rest _ x3')
        have e1 : (f - 1).toNat = f.toNat - 1 := by omega
        have hl : (Mode.sml .num).lim (f - 1).toNat ≤ n := by
          rw [e1]
          simp only [Mode.lim, Kd.rank] at hn ⊢
          omega
        have hG1 : CO Γ (f - 1).toNat := by rw [e1]; exact hG.mono (by omega)
        refine ⟨_, rfl, _, rfl, _, rfl, _, _, rfl, rfl, _, rfl, ?_⟩
        refine ⟨_, a, sd, f - 1, .num, Γ, rfl, hl, hk, hG1, hT.mono (x3'.fs hS), x3'.lt hS ha hA, x3'.2, fun r4 H4 q4 x4 t4 g4 => ?_⟩
        have x4' := x3'.trans x4
        refine ⟨two_le, fun L hL => ?_⟩
        have x5 := x4'.same (same_new hL (.lst [.str "add", .str "mul"]))
        refine ⟨_, rfl, sd, 2, rfl, x5.2, by decide, by decide, fun r6 H6 h60 h61 x6 => ?_⟩
        have x6' := x5.trans x6
        have hL6 := x6.1 _ _ (x4'.2.ne hL).symm upd_same
        obtain ⟨v, hv, hm⟩ := atI_mem (xs := [V.str "add", .str "mul"]) h60 h61
        refine ⟨L, _, _, v, rfl, rfl, SqL.of hL6, hv, _, rfl, ?_⟩
        refine ⟨_, rfl, _, rfl, _, rfl, _, _, rfl, rfl, _, rfl, ?_⟩
        refine ⟨_, a, sd, f - 1, .num, Γ, rfl, hl, hk, hG1, hT.mono (x6'.fs hS), x6'.lt hS ha hA, x6'.2, fun r7 H7 q7 x7 t7 g7 => ?_⟩
        refine ⟨three_le, fun p o hp no => ?_⟩
        have ef : f.toNat = (f - 1).toNat + 1 := by omega
        have t4' : Tp H7 r4 q4.enc := t4.mono ((((SX.ofSame x4'.2 (same_new hL _)).trans x6).trans x7).fs x4'.2)
        simp only [List.mem_cons, List.not_mem_nil, or_false] at hm
        rcases hm with rfl | rfl
        · refine q _ _ (.add q4 q7) ((x6'.trans x7).same (same_new hp _)) (.new hp no (.cons (.str _) (.cons t4' (.cons t7 .nil)))) ?_
          rw [ef]
          exact .sadd g4 g7
        · refine q _ _ (.mul q4 q7) ((x6'.trans x7).same (same_new hp _)) (.new hp no (.cons (.str _) (.cons t4' (.cons t7 .nil)))) ?_
          rw [ef]
          exact .smul g4 g7
      case r =>
        intro H3 x3
        refine ⟨_, rfl, _, rfl, _, sd, 1, .num, rfl, by decide, by decide, .inl rfl, hT.mono (x3.fs hS), x3.2, fun r4 H4 v x4 t4 vr => ?_⟩
        obtain ⟨m, rfl, hm⟩ := vr.1 rfl
        exact q r4 H4 (.num m) (x3.trans x4) t4 (.snum hm)
    | word =>
      obtain ⟨t, x0, rfl, f0, t0⟩ := (hT.mono f2).i1
      obtain rfl := t0.strI
      refine ⟨_, rfl, t, _, 0, _, rfl, rfl, f0.sq, rfl, rfl, _, rfl, iteF ?_⟩
      refine ⟨_, rfl, t, _, 0, _, rfl, rfl, f0.sq, rfl, rfl, _, rfl, iteF ?_⟩
      refine ⟨_, rfl, t, _, 0, _, rfl, rfl, f0.sq, rfl, rfl, _, rfl, iteF (iteF ?_)⟩
      refine ⟨_, rfl, _, rfl, _, sd, 1, .word, rfl, by decide, by decide, .inl rfl, hT.mono f2, x2.2, fun r4 H4 v x4 t4 vr => ?_⟩
      obtain ⟨m, rfl⟩ := vr.1 rfl
      exact q r4 H4 (.word m) (x2.trans x4) t4 .sword
    | _ =>
      first
      | have hkf : Kd.level.fields ≠ [] := by simp [Kd.fields]
        obtain ⟨fl, efl⟩ : ∃ fl, Kd.level.fields = fl := ⟨_, rfl⟩
        have hrk : Kd.level.rank = 2 := rfl
        have hTk := hT.mono f2
        rw [Kd.fields_enc hkf] at hTk
        have hfr : ∀ p ∈ Kd.level.fields, p.2.rank < Kd.level.rank := fun p hp => fields_rank hp
        have hl4 : Kd.level.fields.length ≤ 4 := by decide
        rw [efl] at hTk hfr hl4
      | have hkf : Kd.deep.fields ≠ [] := by simp [Kd.fields]
        obtain ⟨fl, efl⟩ : ∃ fl, Kd.deep.fields = fl := ⟨_, rfl⟩
        have hrk : Kd.deep.rank = 4 := rfl
        have hTk := hT.mono f2
        rw [Kd.fields_enc hkf] at hTk
        have hfr : ∀ p ∈ Kd.deep.fields, p.2.rank < Kd.deep.rank := fun p hp => fields_rank hp
        have hl4 : Kd.deep.fields.length ≤ 4 := by decide
        rw [efl] at hTk hfr hl4
      obtain ⟨t, x0, y1, rfl, f0, t0, t1⟩ := hTk.i2
      obtain rfl := t0.strI
      obtain ⟨b, xs, rfl, fb, tb⟩ := t1.tupI
      refine ⟨_, rfl, t, _, 0, _, rfl, rfl, f0.sq, rfl, rfl, _, rfl, iteF ?_⟩
      refine ⟨_, rfl, t, _, 0, _, rfl, rfl, f0.sq, rfl, rfl, _, rfl, iteT ?_⟩
      refine ⟨_, rfl, t, _, 1, _, rfl, rfl, f0.sq, rfl, b, rfl, ⟨xs, fb.sq⟩, fun D hD => ?_⟩
      have hlx : xs.length = fl.length := by rw [tb.len, List.length_map]
      have e1 : (f - 1).toNat = f.toNat - 1 := by omega
      refine lc_tupX (α := Str × N97.Q) (fun p => .tuple [.str p.1, p.2.enc]) (fun i p => ∃ fk : Str × Kd, fl[i]? = some fk ∧ p.1 = fk.1 ∧ Gen (.ask fk.2) Γ (f.toNat - 1) p.2) hD x2.2 fb (by rw [hlx, sizeLine_eq]; omega) (fun i x H3 C hx s3 c => ?_) (fun H3 acc as s3 hA3 hn3 tA hP => ?_)
      · obtain ⟨d, ed, td⟩ := tb.get hx
        rw [List.getElem?_map] at ed
        obtain ⟨fk, efk, rfl⟩ := Option.map_eq_some_iff.mp ed
        have hr2 := hfr fk (List.mem_of_getElem? efk)
        obtain ⟨a2, u0, u1, rfl, g2, v0, v1⟩ := (td.mono (s3.fs x2.2)).i2
        obtain rfl := v0.strI
        refine ⟨a2, _, rfl, g2.sq, rfl, _, _, rfl, _, _, rfl, rfl, rfl, ?_⟩
        refine ⟨_, rfl, _, rfl, _, rfl, _, rfl, _, _, rfl, rfl, _, rfl, ?_⟩
        refine ⟨u1, a, sd, f - 1, fk.2, Γ, rfl, ?_, by omega, by rw [e1]; exact hG.mono (by omega), v1, (x2.trans s3).lt hS ha hA, s3.2, fun r H4 q4 x4 t4 g4 => ⟨two_le, fun p' o hp no => ?_⟩⟩
        · have := ask_lim fk.2 (f - 1).toNat
          rw [e1] at this ⊢
          simp only [Mode.lim] at hn
          omega
        · exact c _ (fk.1, q4) _ (x4.same (same_new hp _)) (.new hp no (.cons (.str fk.1) (.cons t4 .nil))) ⟨fk, efk, rfl, by rw [← e1]; exact g4⟩
      · refine ⟨D, acc, rfl, SqL.of hA3, fun p o hp no => ⟨two_le, fun p2 o2 hp2 no2 => ?_⟩⟩
        refine q _ _ (.row (.ofF as)) ((x2.trans s3).same ((same_new hp _).trans (same_new hp2 _))) ?_ ?_
        · refine .new hp2 no2 (.cons (.str _) (.cons ?_ .nil))
          rw [N97.Q.enc_ofF]
          exact .new hp no tA
        · subst efl
          first
          | obtain ⟨⟨f1, v1⟩, ⟨f2, v2⟩, rfl⟩ := len2 (hn3.trans hlx)
            obtain ⟨k1, e1, r1, z1⟩ := hP 0 _ rfl
            obtain ⟨k2, e2, r2, z2⟩ := hP 1 _ rfl
            obtain rfl : (("b" : Str), Kd.word) = k1 := Option.some.inj e1
            obtain rfl : (("r" : Str), Kd.num) = k2 := Option.some.inj e2
            obtain rfl : f1 = "b" := r1
            obtain rfl : f2 = "r" := r2
            exact .slvl z1 z2
          | obtain ⟨⟨f1, v1⟩, ⟨f2, v2⟩, ⟨f3, v3⟩, ⟨f4, v4⟩, rfl⟩ := len4 (hn3.trans hlx)
            obtain ⟨k1, e1, r1, z1⟩ := hP 0 _ rfl
            obtain ⟨k2, e2, r2, z2⟩ := hP 1 _ rfl
            obtain ⟨k3, e3, r3, z3⟩ := hP 2 _ rfl
            obtain ⟨k4, e4, r4, z4⟩ := hP 3 _ rfl
            obtain rfl : (("a" : Str), Kd.num) = k1 := Option.some.inj e1
            obtain rfl : (("b" : Str), Kd.word) = k2 := Option.some.inj e2
            obtain rfl : (("t" : Str), Kd.bag .num) = k3 := Option.some.inj e3
            obtain rfl : (("z" : Str), Kd.word) = k4 := Option.some.inj e4
            obtain rfl : f1 = "a" := r1
            obtain rfl : f2 = "b" := r2
            obtain rfl : f3 = "t" := r3
            obtain rfl : f4 = "z" := r4
            exact .sdeep z1 z2 z3 z4
end
end N97

/-! KaWa -/
set_option maxRecDepth 100000
set_option maxHeartbeats 8000000
namespace N97
open PySem PySem.Spec PyProof.Rows L2
theorem with_rest2 {G : Prop} (R : V → Hp → Prop) (Ok : V → Hp → Prop) (m : (∀ v H2, Ok v H2 → R v H2) → G) (r : ∀ v H2, Ok v H2 → R v H2) : G := m r
section
variable {P : Program} {w : World} {K : PySem.W.Frag} {mg : Str → Option Value} {base : Heap}
theorem ok_clm1 {n : Nat} {f fS fD : Addr} {fd fdS fdD : FuncData} (F : Fun K "_law_claim" "_law_claim" sClm f fd)
    (GC : FnOk P w K mg base CX0 (n + 20) f fd ["scope", "fuel", "seed"] (spClm n)) (bC : Binds K fd ["scope", "fuel", "seed"] []) (mC : mg "_law_claim" = some (.ref f))
    (GS : FnOk P w K mg base CX0 (n + 20) fS fdS ["kind", "scope", "fuel", "seed"] (spSml n)) (bS : Binds K fdS ["kind", "scope", "fuel", "seed"] []) (kS : PySem.W.keepIn K (.ref fS) = true) (mS : mg "_law_small" = some (.ref fS))
    (GD : FnOk P w K mg base CX0 1 fD fdD ["seed", "most"] spDraw) (bD : Binds K fdD ["seed", "most"] []) (kD : PySem.W.keepIn K (.ref fD) = true) (mD : mg "_law_draw" = some (.ref fD))
    (mi : mg "int" = none) :
    FnOk P w K mg base CX0 (n + 21) f fd ["scope", "fuel", "seed"] (spClm (n + 1)) := by
  refine F.ok scClm (fun vs H Q E h => ?_) (fun cdv A outer s H vs Q E hr h => ?_)
  · obtain ⟨a, sd, fu, Γ, rfl, _⟩ := h
    rfl
  obtain ⟨a, sd, fu, Γ, rfl, hn, hG, hA, hS, q⟩ := h
  have hr1 := hr.mono (show 1 ≤ n + 20 by omega)
  have hu : (A.deeper (envOfC "_law_claim" (defScope sClm) s.heap.objs.size f cdv)).units + 200 < cLine := by have := hr.un; omega
  refine ⟨_, pss_cons (ps_set (i := 3) scClm.nd rfl (.inl rfl) (pe_call GD hr1 rfl mD kD bD .nil pass0 (pa_cons (pv 2) (pa_cons pe_int pa_nil))))
    (pss_cons (ps_if (PW.pt (pw_and (pt_cmpR op_gt (pv 1) pe_int (nomark _)) (pw_and1 (pt_cmpR op_eq (pv 3) pe_int (nomark _)))))
      (pss_one (ps_ret (pe_tupF (pa_cons pe_str (pa_cons (pe_call GC hr rfl mC F.kp bC .nil pass0 (pa_cons (pv 0) (pa_cons (pe_op op_sub (pv 1) pe_int) (pa_cons (pv 2) pa_nil)))) pa_nil))))) pss_nil)
    (pss_cons (ps_if (PW.pt (pw_and (pt_cmpR op_gt (pv 1) pe_int (nomark _)) (pw_and1 (pt_cmpR op_eq (pv 3) pe_int (nomark _)))))
      (pss_cons (ps_set (i := 4) scClm.nd rfl (.inl rfl) (pe_call GC hr rfl mC F.kp bC .nil pass0 (pa_cons (pv 0) (pa_cons (pe_op op_sub (pv 1) pe_int) (pa_cons (pv 2) pa_nil)))))
      (pss_one (ps_ret (pe_tupF (pa_cons (pe_ix ix_list (pe_lst (pa_cons pe_str (pa_cons pe_str pa_nil))) (pe_call GD hr1 rfl mD kD bD .nil pass0 (pa_cons (pv 2) (pa_cons pe_int pa_nil))) (fun _ _ => rfl))
        (pa_cons (pv 4) (pa_cons (pe_call GC hr rfl mC F.kp bC .nil pass0 (pa_cons (pv 0) (pa_cons (pe_op op_sub (pv 1) pe_int) (pa_cons (pv 2) pa_nil)))) pa_nil))))))) pss_nil)
    (pss_cons (ps_set (i := 5) scClm.nd rfl (.inl rfl) (pe_ix ix_list (pe_lst (pa_cons (pe_conT (pa_con pe_conS pa_conN)) (pa_cons (pe_conT (pa_con pe_conS pa_conN)) (pa_cons (pe_conT (pa_con pe_conS pa_conN)) pa_nil)))) (pe_call GD hr1 rfl mD kD bD .nil pass0 (pa_cons (pv 2) (pa_cons pe_int pa_nil))) (fun _ _ => rfl)))
    (pss_cons (ps_set (i := 4) scClm.nd rfl (.inl rfl) (pe_call GS hr rfl mS kS bS .nil pass0 (pa_cons (pv 5) (pa_cons (pv 0) (pa_cons pe_int (pa_cons (pv 2) pa_nil))))))
    (pss_cons (ps_if (PW.pt (pw_and (pt_cmpR (op_eqP hu) (pv 5) (pe_conT (pa_con pe_conS pa_conN)) (nomark _)) (pw_and1 (pt_cmpR op_eq (pe_call GD hr1 rfl mD kD bD .nil pass0 (pa_cons (pv 2) (pa_cons pe_int pa_nil))) pe_int (nomark _)))))
      (pss_one (ps_set (i := 4) scClm.nd rfl (.inl rfl) (pe_ix ix_list (pe_lst
        (pa_cons (pe_tupF (pa_cons pe_str (pa_cons pe_str (pa_cons (pe_tupF (pa_cons pe_str (pa_cons (pe_tupF (pa_cons (pe_tupF (pa_cons pe_str (pa_cons (pv 4) pa_nil))) (pa_cons (pe_conT (pa_con pe_conS (pa_con (pe_conT (pa_con pe_conS (pa_con pe_conS pa_conN))) pa_conN))) pa_nil))) pa_nil))) pa_nil))))
        (pa_cons (pe_tupF (pa_cons pe_str (pa_cons pe_str (pa_cons (pe_conT (pa_con pe_conS (pa_con pe_conS pa_conN))) (pa_cons (pv 4) pa_nil))))) pa_nil)))
        (pe_op op_mod (pv 3) pe_int) (fun _ _ => rfl)))) pss_nil)
    (pss_cons (ps_set (i := 6) scClm.nd rfl (.inl rfl) (pe_ix ix_list (pe_lst (pa_cons pe_str (pa_cons pe_str pa_nil))) (pe_callTy call_int1 (by rfl) mi (by decide +kernel) (pa_cons
        (pe_and (pe_cmpR (op_eqP hu) (pv 5) (pe_conT (pa_con pe_conS pa_conN)) (nomark _)) (pe_one (pe_cmpR op_gt (pv 3) pe_int (nomark _)))) pa_nil)) (fun _ _ => rfl)))
    (pss_one (ps_ret (pe_tupF (pa_cons (pv 6) (pa_cons (pv 4) (pa_cons (pe_call GS hr rfl mS kS bS .nil pass0 (pa_cons (pv 5) (pa_cons (pv 0) (pa_cons pe_int (pa_cons (pv 2) pa_nil))))) pa_nil)))))))))))), ?_⟩
  have ha : a ≠ sd := hA.ne_sd hS tup_cs
  have e1 : (fu - 1).toNat = fu.toNat - 1 := by omega
  have hlc : 0 < fu → Mode.clm.lim (fu - 1).toNat ≤ n := fun h => by
    rw [e1]
    simp only [Mode.lim] at hn ⊢
    omega
  have hG1 : CO Γ (fu - 1).toNat := by rw [e1]; exact hG.mono (by omega)
  have hG0 : CO Γ (0 : Int).toNat := hG.mono (Nat.zero_le _)
  have hls : ∀ k, k = Kd.num ∨ k = Kd.word → (Mode.sml k).lim (0 : Int).toNat ≤ n := fun k h => by
    simp only [Mode.lim] at hn
    rcases h with rfl | rfl <;> (show 20 * 0 + (2 * 1 + 1) ≤ n; omega)
  refine ⟨_, rfl, sd, 6, rfl, hS, by decide, by decide, fun w0 H1 h10 h11 x1 => ?_⟩
  apply with_rest (Ok := fun H2 => SX sd H H2)
  case m =>
    intro rest
    refine ⟨_, rfl, _, _, rfl, rfl, _, rfl, ?_⟩
    refine ite2 (fun cf => ?_) (fun cf => iteF ?_)
    · have hf : 0 < fu := of_decide_eq_true cf
      have ef : fu.toNat = (fu - 1).toNat + 1 := by omega
      refine ⟨_, rfl, rfl, _, rfl, ?_⟩
      refine ite2 (fun c0 => ?_) (fun c0 => ?_)
      · refine ⟨_, rfl, _, rfl, _, _, rfl, rfl, _, rfl, ?_⟩
        refine ⟨a, sd, fu - 1, Γ, rfl, hlc hf, hG1, x1.lt hS ha hA, x1.2, fun r2 H2 q2 x2 t2 g2 => ⟨two_le, fun p o hp no => ?_⟩⟩
        refine q _ _ (.not_ q2) ((x1.trans x2).same (same_new hp _)) (.new hp no (.cons (.str _) (.cons t2 .nil))) ?_
        rw [ef]
        exact .cnot g2
      · refine ⟨_, rfl, _, _, rfl, rfl, _, rfl, iteTe cf ?_⟩
        refine ⟨_, rfl, rfl, _, rfl, ?_⟩
        refine ite2 (fun c0 => ?_) (fun c0 => rest _ x1)
        refine ⟨_, rfl, _, rfl, _, _, rfl, rfl, _, rfl, ?_⟩
        refine ⟨a, sd, fu - 1, Γ, rfl, hlc hf, hG1, x1.lt hS ha hA, x1.2, fun r2 H2 q2 x2 t2 g2 => ?_⟩
        have x2' := x1.trans x2
        refine ⟨two_le, fun L hL => ?_⟩
        have x3 := x2'.same (same_new hL (.lst [.str "and", .str "or"]))
        refine ⟨_, rfl, sd, 2, rfl, x3.2, by decide, by decide, fun r4 H4 h40 h41 x4 => ?_⟩
        have x4' := x3.trans x4
        have hL4 := x4.1 _ _ (x2'.2.ne hL).symm upd_same
        obtain ⟨v, hv, hm⟩ := atI_mem (xs := [V.str "and", .str "or"]) h40 h41
        refine ⟨L, _, _, v, rfl, rfl, SqL.of hL4, hv, _, rfl, ?_⟩
        refine ⟨_, rfl, _, rfl, _, _, rfl, rfl, _, rfl, ?_⟩
        refine ⟨a, sd, fu - 1, Γ, rfl, hlc hf, hG1, x4'.lt hS ha hA, x4'.2, fun r5 H5 q5 x5 t5 g5 => ⟨three_le, fun p o hp no => ?_⟩⟩
        have t2' : Tp H5 r2 q2.enc := t2.mono ((((SX.ofSame x2'.2 (same_new hL _)).trans x4).trans x5).fs x2'.2)
        simp only [List.mem_cons, List.not_mem_nil, or_false] at hm
        rcases hm with rfl | rfl
        · refine q _ _ (.and_ q2 q5) ((x4'.trans x5).same (same_new hp _)) (.new hp no (.cons (.str _) (.cons t2' (.cons t5 .nil)))) ?_
          rw [ef]
          exact .cand g2 g5
        · refine q _ _ (.or_ q2 q5) ((x4'.trans x5).same (same_new hp _)) (.new hp no (.cons (.str _) (.cons t2' (.cons t5 .nil)))) ?_
          rw [ef]
          exact .cor g2 g5
    · refine ⟨_, rfl, _, _, rfl, rfl, _, rfl, ?_⟩
      exact ite2 (fun c => absurd c cf) (fun _ => iteF (rest _ x1))
  case r =>
    intro H2 x2
    intro v1 H3 s3 t3 v2 H4 s4 t4 v3 H5 s5 t5
    refine ⟨three_le, fun L hL => ?_⟩
    have s6 := same_new hL (.lst [v1, v2, v3])
    have x6 := x2.same (s3.trans (s4.trans (s5.trans s6)))
    refine ⟨_, rfl, sd, 3, rfl, x6.2, by decide, by decide, fun r7 H7 h70 h71 x7 => ?_⟩
    have x7' := x6.trans x7
    have hL7 := x7.1 _ _ (((x2.same (s3.trans (s4.trans s5))).2.ne hL).symm) upd_same
    obtain ⟨kv, hv, hm⟩ := atI_mem (xs := [v1, v2, v3]) h70 h71
    have f7 : FS _ H7 := x7.fs x6.2
    obtain ⟨kd, hkd, tk⟩ : ∃ kd : Kd, (kd = .num ∨ kd = .word) ∧ Tp H7 kv kd.enc := by
      simp only [List.mem_cons, List.not_mem_nil, or_false] at hm
      rcases hm with rfl | rfl | rfl
      · exact ⟨.num, .inl rfl, (t3.mono (s4.trans (s5.trans s6)).fs).mono f7⟩
      · exact ⟨.num, .inl rfl, (t4.mono (s5.trans s6).fs).mono f7⟩
      · exact ⟨.word, .inr rfl, (t5.mono s6.fs).mono f7⟩
    refine ⟨L, _, _, kv, rfl, rfl, SqL.of hL7, hv, ?_⟩
    have hkr : kd.rank ≤ 5 := by rcases hkd with rfl | rfl <;> decide
    have hkdep : kd.enc.depth ≤ 100 := by have := kd_depth kd; omega
    refine ⟨_, rfl, _, rfl, _, rfl, kv, a, sd, 0, kd, Γ, rfl, hls kd hkd, hkr, hG0, tk, x7'.lt hS ha hA, x7'.2, fun r8 H8 q8 x8 t8 g8 => ?_⟩
    have x8' := x7'.trans x8
    have tk8 := tk.mono (x8.fs x7'.2)
    apply with_rest2 (Ok := fun v H9 => SX sd H H9 ∧ Tp H9 kv kd.enc ∧ ∃ q9, Tp H9 v (N97.Q.enc q9) ∧ Gen (.arm kd) Γ 0 q9)
    case m =>
      intro rest
      refine ⟨_, rfl, fun v9 H9 s9 t9 => ?_⟩
      have x9 := x8'.same s9
      have t8' := t8.mono s9.fs
      refine ⟨kd.enc, Kd.num.enc, tk8.mono s9.fs, t9, hkdep, fun b hb => ⟨_, rfl, ?_⟩⟩
      cases b with
      | false =>
        refine iteF (iteF ?_)
        generalize r8 = v9' at t8' ⊢
        exact rest v9' _ ⟨x9, tk8.mono s9.fs, q8, t8', .arm hkd g8⟩
      | true =>
        obtain rfl : kd = .num := Kd.enc_inj (hb.mp rfl)
        refine iteT ⟨_, rfl, sd, 8, rfl, x9.2, by decide, by decide, fun ra Ha ha0 ha1 xa => ⟨rfl, _, rfl, ?_⟩⟩
        have xa' := x9.trans xa
        have fa := xa.fs x9.2
        have tka := (tk8.mono s9.fs).mono fa
        have t8a := t8'.mono fa
        refine ite2 (fun c => ?_) (fun c => rest _ _ ⟨xa', tka, q8, t8a, .arm hkd g8⟩)
        refine ⟨_, rfl, two_le, fun p3 o3 hp3 no3 => ?_⟩
        have s3 := same_new hp3 (.frz o3 (.tup [.str "a", r8]))
        have u3 : Tp _ (.ref p3) (.tuple [.str "a", q8.enc]) := .new hp3 no3 (.cons (.str _) (.cons t8a .nil))
        intro v4 H4' s4' t4'
        refine ⟨two_le, fun p2 o2 hp2 no2 => ?_⟩
        have s2 := same_new hp2 (.frz o2 (.tup [.ref p3, v4]))
        have u2 : Tp _ (.ref p2) (.tuple [.tuple [.str "a", q8.enc], .tuple [.str "b", .tuple [.str "table", .str "t"]]]) := .new hp2 no2 (.cons (u3.mono s4'.fs) (.cons t4' .nil))
        refine ⟨two_le, fun p1 o1 hp1 no1 => ?_⟩
        have s1 := same_new hp1 (.frz o1 (.tup [.str "row", .ref p2]))
        have u1 : Tp _ (.ref p1) (.tuple [.str "row", _]) := .new hp1 no1 (.cons (.str _) (.cons u2 .nil))
        refine ⟨three_le, fun p0 o0 hp0 no0 => ?_⟩
        have s0 := same_new hp0 (.frz o0 (.tup [.str "at", .str "a", .ref p1]))
        have u0 : Tp _ (.ref p0) (.tuple [.str "at", .str "a", _]) := .new hp0 no0 (.cons (.str _) (.cons (.str _) (.cons u1 .nil)))
        intro v5 H5' s5' t5'
        refine ⟨_, rfl, four_le, fun p6 o6 hp6 no6 => ?_⟩
        have sA := s3.trans (s4'.trans (s2.trans (s1.trans (s0.trans s5'))))
        have s6' := same_new hp6 (.frz o6 (.tup [.str "let", .str "w", v5, r8]))
        have u6 : Tp _ (.ref p6) (.tuple [.str "let", .str "w", .tuple [.str "table", .str "u"], q8.enc]) := .new hp6 no6 (.cons (.str _) (.cons (.str _) (.cons t5' (.cons (t8a.mono sA.fs) .nil))))
        refine ⟨two_le, fun L2 hL2 => ?_⟩
        have sB := sA.trans (s6'.trans (same_new hL2 (.lst [.ref p0, .ref p6])))
        have fB := (same_new hL2 (.lst [.ref p0, .ref p6])).fs
        refine ⟨_, rfl, _, _, rfl, rfl, (show (0 : Int) < 2 by decide), ?_⟩
        have m0 := Int.emod_nonneg w0 (show (2 : Int) ≠ 0 by decide)
        have m1 := Int.emod_lt_of_pos w0 (show (0 : Int) < 2 by decide)
        obtain ⟨vv, hvv, hmm⟩ := atI_mem (xs := [V.ref p0, .ref p6]) m0 m1
        refine ⟨L2, _, _, vv, rfl, rfl, SqL.of upd_same, hvv, ?_⟩
        refine rest _ _ ⟨xa'.same sB, tka.mono sB.fs, ?_⟩
        simp only [List.mem_cons, List.not_mem_nil, or_false] at hmm
        rcases hmm with rfl | rfl
        · exact ⟨.att "a" (.row (.ofF [("a", q8), ("b", .table "t")])), (u0.mono (s5'.trans s6').fs).mono fB, .armA g8⟩
        · exact ⟨.let_ "w" (.table "u") q8, u6.mono fB, .armL g8⟩
    case r =>
      rintro va Ha ⟨xa, tka, qa, ta, ga⟩
      refine ⟨two_le, fun L2 hL2 => ?_⟩
      have sb := same_new hL2 (.lst [.str "same", .str "under"])
      refine ⟨_, rfl, fun v9 H9 s9 t9 => ?_⟩
      have hL9 := s9 _ _ upd_same
      have sc := sb.trans s9
      have xc := xa.same sc
      -- the end, by the word
      have fin : ∀ (wd : Str), (wd = "same" ∨ (wd = "under" ∧ kd = .num)) → ∀ (r : V) (Hb : Hp) (qb : N97.Q) (p : Addr) (o : Obj), SX sd H9 Hb → Tp Hb r qb.enc → Gen (.sml kd) Γ (0 : Int).toNat qb → Hb p = none → NoD o → Q (.ref p) (upd Hb p (.frz o (.tup [.str wd, va, r]))) := by
        intro wd hw r Hb qb p o xb tb gb hp no
        have ta' := (ta.mono sc.fs).mono (xb.fs xc.2)
        rcases hw with rfl | ⟨rfl, rfl⟩
        · exact q _ _ (.same qa qb) ((xc.trans xb).same (same_new hp _)) (.new hp no (.cons (.str _) (.cons ta' (.cons tb .nil)))) (.csame hkd ga gb)
        · exact q _ _ (.under qa qb) ((xc.trans xb).same (same_new hp _)) (.new hp no (.cons (.str _) (.cons ta' (.cons tb .nil)))) (.cunder ga gb)
      refine ⟨kd.enc, Kd.num.enc, tka.mono sc.fs, t9, hkdep, fun b hb => ⟨_, rfl, ?_⟩⟩
      have fin2 : ∀ (wd : Str), (wd = "same" ∨ (wd = "under" ∧ kd = .num)) → True := fun _ _ => trivial
      cases b with
      | false =>
        refine iteF (.inr ⟨_, rfl, ?_⟩)
        refine ⟨L2, _, _, _, rfl, rfl, SqL.of hL9, rfl, ?_⟩
        refine ⟨_, rfl, _, rfl, _, rfl, _, rfl, _, rfl, ?_⟩
        exact ⟨kv, a, sd, 0, kd, Γ, rfl, hls kd hkd, hkr, hG0, tka.mono sc.fs, xc.lt hS ha hA, xc.2, fun r Hb qb xb tb gb => ⟨three_le, fun p o hp no => fin "same" (.inl rfl) r Hb qb p o xb tb gb hp no⟩⟩
      | true =>
        have ek : kd = .num := Kd.enc_inj (hb.mp rfl)
        refine iteT ⟨_, rfl, _, _, rfl, rfl, .inr ⟨_, rfl, ?_⟩⟩
        cases hc : decide ((3 : Int) < w0) with
        | false =>
          refine ⟨L2, _, _, _, rfl, rfl, SqL.of hL9, rfl, ?_⟩
          refine ⟨_, rfl, _, rfl, _, rfl, _, rfl, _, rfl, ?_⟩
          exact ⟨kv, a, sd, 0, kd, Γ, rfl, hls kd hkd, hkr, hG0, tka.mono sc.fs, xc.lt hS ha hA, xc.2, fun r Hb qb xb tb gb => ⟨three_le, fun p o hp no => fin "same" (.inl rfl) r Hb qb p o xb tb gb hp no⟩⟩
        | true =>
          refine ⟨L2, _, _, _, rfl, rfl, SqL.of hL9, rfl, ?_⟩
          refine ⟨_, rfl, _, rfl, _, rfl, _, rfl, _, rfl, ?_⟩
          exact ⟨kv, a, sd, 0, kd, Γ, rfl, hls kd hkd, hkr, hG0, tka.mono sc.fs, xc.lt hS ha hA, xc.2, fun r Hb qb xb tb gb => ⟨three_le, fun p o hp no => fin "under" (.inr ⟨rfl, ek⟩) r Hb qb p o xb tb gb hp no⟩⟩
end
end N97

/-! KaWb -/
set_option maxRecDepth 100000
set_option maxHeartbeats 8000000
namespace N97
open PySem PySem.Spec PyProof.Rows L2
abbrev sOvr : Stmt := topS 24
abbrev sTak : Stmt := topS 25
abbrev nOvr : List Str := ["scope", "fuel", "seed", "kinds", "name", "kind", "inner", "spare", "other"]
abbrev nTak : List Str := ["kind", "scope", "fuel", "seed", "fields", "place", "parts", "field"]
theorem scOvr : FnScope nOvr ["scope", "fuel", "seed"] (defScope sOvr) := ⟨rfl, rfl, rfl, by decide +kernel, rfl, by decide +kernel, by decide +kernel⟩
theorem scTak : FnScope nTak ["kind", "scope", "fuel", "seed"] (defScope sTak) := ⟨rfl, rfl, rfl, by decide +kernel, rfl, by decide +kernel, by decide +kernel⟩
theorem KDs.same {H H' : Hp} {p : Addr} (h : KDs H p) (s : Same H H') : KDs H' p := h.mono s.fs fun _ e => s _ _ e
theorem KDs.sx {H H' : Hp} {p sd : Addr} (h : KDs H p) (hS : Sd H sd) (x : SX sd H H') : KDs H' p := h.mono (x.fs hS) fun _ e => x.1 _ _ (by
  obtain ⟨n, f, c, m, h2⟩ := hS
  exact ne_of e h2 (by intro z; cases z)) e
theorem KDs.but {H H' : Hp} {p c : Addr} {xs : List V} (h : KDs H p) (hc : H c = some (.lst xs)) (x : But c H H') : KDs H' p := h.mono (x.fs hc) fun _ e => x _ _ (ne_of e hc (by intro z; cases z)) e
/-- what a loop may go over, and its rows' kind -/
def odat (p : N97.Q × Kd) : PyData := .tuple [p.1.enc, (Kd.bag p.2).enc]
def OG (Γ : Ctx) (p : N97.Q × Kd) : Prop := p.2.rank ≤ 4 ∧ ∀ f, Gen (.ovr p.2) Γ f p.1
theorem tup_os {os : List (N97.Q × Kd)} : ∀ d ∈ os.map odat, ∃ xs, d = .tuple xs := fun d hd => by
  obtain ⟨q, _, rfl⟩ := List.mem_map.mp hd
  exact ⟨_, rfl⟩
theorem Kd.tag_bag {k : Kd} (h : k.tag = "bag") : ∃ j, k = .bag j := by
  cases k with
  | bag j => exact ⟨j, rfl⟩
  | _ => exact absurd h (by simp [Kd.tag]; try decide)
theorem T5_kd {v : V} (h : v ∈ [V.str "r", .str "s", .str "t", .str "u", .str "v"]) : ∃ t k, v = .str t ∧ kdOf t = some k := by
  simp only [List.mem_cons, List.not_mem_nil, or_false] at h
  rcases h with rfl | rfl | rfl | rfl | rfl <;> exact ⟨_, _, rfl, rfl⟩
section
variable {P : Program} {w : World} {K : PySem.W.Frag} {mg : Str → Option Value} {base : Heap}
theorem ok_ovr1 {n : Nat} {f fK fS fA fD : Addr} {fd fdK fdS fdA fdD : FuncData} (F : Fun K "_law_over" "_law_over" sOvr f fd)
    (GK : FnOk P w K mg base CX0 1 fK fdK [] spKds) (bK : Binds K fdK [] []) (kK : PySem.W.keepIn K (.ref fK) = true) (mK : mg "_law_kinds" = some (.ref fK))
    (GS : FnOk P w K mg base CX0 1 fS fdS ["scope"] spSeen) (bS : Binds K fdS ["scope"] []) (kS : PySem.W.keepIn K (.ref fS) = true) (mS : mg "_law_seen" = some (.ref fS))
    (GA : FnOk P w K mg base CX0 (n + 20) fA fdA ["kind", "scope", "fuel", "seed"] (spAsk n)) (bA : Binds K fdA ["kind", "scope", "fuel", "seed"] []) (kA : PySem.W.keepIn K (.ref fA) = true) (mA : mg "_law_asked" = some (.ref fA))
    (GD : FnOk P w K mg base CX0 1 fD fdD ["seed", "most"] spDraw) (bD : Binds K fdD ["seed", "most"] []) (kD : PySem.W.keepIn K (.ref fD) = true) (mD : mg "_law_draw" = some (.ref fD))
    (ml : mg "len" = none) :
    FnOk P w K mg base CX0 (n + 21) f fd ["scope", "fuel", "seed"] (spOvr (n + 1)) := by
  refine F.ok scOvr (fun vs H Q E h => ?_) (fun cdv A outer s H vs Q E hr h => ?_)
  · obtain ⟨a, sd, fu, Γ, rfl, _⟩ := h
    rfl
  obtain ⟨a, sd, fu, Γ, rfl, hn, hG, hA, hS, q⟩ := h
  have hr1 := hr.mono (show 1 ≤ n + 20 by omega)
  have hu : (A.deeper (envOfC "_law_over" (defScope sOvr) s.heap.objs.size f cdv)).units + 200 < cLine := by have := hr.un; omega
  refine ⟨_, pss_cons (ps_set (i := 3) scOvr.nd rfl (.inl rfl) (pe_call0 GK hr1 rfl mK kK bK .nil pass0))
    (pss_cons (ps_set (i := 4) scOvr.nd rfl (.inl rfl) (pe_ix ix_list (pe_lst (pa_cons pe_str (pa_cons pe_str (pa_cons pe_str (pa_cons pe_str (pa_cons pe_str pa_nil)))))) (pe_call GD hr1 rfl mD kD bD .nil pass0 (pa_cons (pv 2) (pa_cons pe_int pa_nil))) (fun _ _ => rfl)))
    (pss_cons (ps_set (i := 5) scOvr.nd rfl (.inl rfl) (pe_tupF (pa_cons pe_str (pa_cons (pe_dget (hu_of hr) (pv 3) (pv 4) (fun _ _ => rfl)) pa_nil))))
    (pss_cons (ps_setLc (i := 6) (own := [("spare", 7), ("other", 8)]) (g := gTup K 2 (gCons (gName 7) (gCons (gName 8) gNil))) (tt := tTest (tOp rEq (tOp (rIxT K) (tVar 8) (L2.tC (.int 0))) (L2.tC (.str "bag")))) rfl scOvr.nd rfl rfl (sw_true rfl rfl rfl rfl)
          (pi_list (pe_call GS hr1 rfl mS kS bS .nil pass0 (pa_cons (pv 0) pa_nil))) (blkOk_by (N := nOvr) (sc := defScope sOvr) (by decide +kernel))
          (fun _ _ _ _ _ => pg_tup rfl (pgs_cons (pg_name (i := 7) scOvr.nd rfl (.inl rfl)) (pgs_cons (pg_name (i := 8) scOvr.nd rfl (.inl rfl)) pgs_nil)))
          (fun _ _ _ _ _ => pts_one (pt_cmpR op_eq (pe_ix (ix_tupK K) (pv 8) pe_int (fun _ _ => rfl)) pe_str (nomark _)))
          (fun _ _ _ _ _ => pe_tupF (pa_cons (pe_tupF (pa_cons pe_str (pa_cons (pv 7) pa_nil))) (pa_cons (pv 8) pa_nil))))
    (pss_cons (ps_for PassesOwn.never rfl (pi_list (pe_call GS hr1 rfl mS kS bS .nil pass0 (pa_cons (pv 0) pa_nil))) (pg_tup rfl (pgs_cons (pg_name (i := 7) scOvr.nd rfl (.inl rfl)) (pgs_cons (pg_name (i := 8) scOvr.nd rfl (.inl rfl)) pgs_nil)))
      (pss_one (ps_if (pt_cmpR (op_eqP hu) (pv 8) (pe_dget (hu_of hr) (pv 3) pe_str (fun _ _ => rfl)) (nomark _))
        (pss_one (ps_expr (pe_bm PySem.F.plainAttrs_list PySem.F.slot_list_append PySem.F.type_list_append mt_append (pv 6) (pa_cons (pe_tupF (pa_cons (pe_tupF (pa_cons pe_str (pa_cons pe_str (pa_cons (pe_tupF (pa_cons pe_str (pa_cons (pv 7) pa_nil))) pa_nil))))
          (pa_cons (pe_conT (pa_con pe_conS (pa_con (pe_conT (pa_con pe_conS pa_conN)) pa_conN))) pa_nil))) pa_nil)))) pss_nil)))
    (pss_cons (ps_if (PW.pt (pw_and (pt_cmpR (op_neNil hr.units0) (pv 6) (pe_lst pa_nil) (nomark _)) (pw_and1 (pt_cmpR op_eq (pe_call GD hr1 rfl mD kD bD .nil pass0 (pa_cons (pv 2) (pa_cons pe_int pa_nil))) pe_int (nomark _)))))
      (pss_one (ps_ret (pe_ix ix_list (pv 6) (pe_call GD hr1 rfl mD kD bD .nil pass0 (pa_cons (pv 2) (pa_cons (pe_callB call_len_seq (by rfl) ml PySem.boot_len (pa_cons (pv 6) pa_nil)) pa_nil))) (fun _ _ => rfl)))) pss_nil)
    (pss_cons (ps_if (PW.pt (pw_and (pt_cmpR op_gt (pv 1) pe_int (nomark _)) (pw_and1 (pt_cmpR op_eq (pe_call GD hr1 rfl mD kD bD .nil pass0 (pa_cons (pv 2) (pa_cons pe_int pa_nil))) pe_int (nomark _)))))
      (pss_one (ps_ret (pe_tupF (pa_cons (pe_call GA hr rfl mA kA bA .nil pass0 (pa_cons (pv 5) (pa_cons (pv 0) (pa_cons (pe_op op_sub (pv 1) pe_int) (pa_cons (pv 2) pa_nil))))) (pa_cons (pv 5) pa_nil))))) pss_nil)
    (pss_one (ps_ret (pe_tupF (pa_cons (pe_tupF (pa_cons pe_str (pa_cons (pv 4) pa_nil))) (pa_cons (pv 5) pa_nil))))))))))), ?_⟩
  have ha : a ≠ sd := hA.ne_sd hS tup_cs
  have hG64 : Γ.length < 64 := by have := hG.1; omega
  refine ⟨rfl, fun pk H1 s1 kd1 => ?_⟩
  have x1 := SX.ofSame hS s1
  refine ⟨five_le, fun L hL => ?_⟩
  have x2 := x1.same (same_new hL (.lst [.str "r", .str "s", .str "t", .str "u", .str "v"]))
  refine ⟨_, rfl, sd, 5, rfl, x2.2, by decide, by decide, fun r3 H3 h30 h31 x3 => ?_⟩
  have x3' := x2.trans x3
  have kd3 := (kd1.same (same_new hL (.lst [.str "r", .str "s", .str "t", .str "u", .str "v"]))).sx x2.2 x3
  have hL3 := x3.1 _ _ (x1.2.ne hL).symm upd_same
  obtain ⟨v, hv, hm⟩ := atI_mem (xs := [V.str "r", .str "s", .str "t", .str "u", .str "v"]) h30 h31
  obtain ⟨tn, k, rfl, hk⟩ := T5_kd hm
  refine ⟨L, _, _, _, rfl, rfl, SqL.of hL3, hv, ?_⟩
  obtain ⟨ku, hg, hku⟩ := kd3.get hk
  refine ⟨_, rfl, _, rfl, pk, ku, rfl, hg, two_le, fun p4 o4 hp4 no4 => ?_⟩
  have s4 := same_new hp4 (.frz o4 (.tup [.str "bag", ku]))
  have x4 := x3'.same s4
  have kd4 := kd3.same s4
  have tk4 : Tp (upd H3 p4 (.frz o4 (.tup [.str "bag", ku]))) (.ref p4) (Kd.bag k).enc := .new hp4 no4 (.cons (.str _) (.cons hku .nil))
  generalize (upd H3 p4 (.frz o4 (.tup [.str "bag", ku]))) = H4 at x4 kd4 tk4 ⊢
  clear s4
  -- inner
  refine ⟨_, rfl, a, Γ, rfl, x4.lt hS ha hA, hG64, fun pl H5 ts its s5 hpl hPL hI hlk hil => ?_⟩
  have hlen : ts.length = its.length := Paired.length hI
  refine ⟨pl, rfl, ⟨ts, SqL.of hPL⟩, fun D hD => ?_⟩
  have hDsd : D ≠ sd := ((x4.same s5).2.ne hD).symm
  refine lc_list (xs := ts) (fun i H6 => Same H5 H6 ∧ ∃ acc os, H6 D = some (.lst acc) ∧ TpAll H6 acc (os.map odat) ∧ (∀ o ∈ os, OG Γ o) ∧ os.length ≤ i)
    ⟨same_new hD _, [], [], upd_same, .nil, (fun o h => nomatch h), Nat.le_refl _⟩ (fun i H6 _ p => SqL.of (p.1 _ _ hPL)) (fun i x H6 hx p => ?_) (fun H6 p => ?_)
  · obtain ⟨s6, acc, os, hA6, tA6, hos, hol⟩ := p
    obtain ⟨⟨nm, kn⟩, ei, t, u, rfl, h1, h2⟩ := paired_at hI hx
    have hlook : look nm Γ = some kn := hlk _ (List.mem_of_getElem? ei)
    have hi : i < 64 := by
      have := (List.getElem?_eq_some_iff.mp hx).1
      omega
    have h2' := h2.mono s6.fs
    obtain ⟨tu, tr, rfl, ftu⟩ := h2'.tag
    refine ⟨t, _, rfl, SqT.of (s6 _ _ h1), rfl, _, _, rfl, _, _, rfl, rfl, rfl, ?_⟩
    refine ⟨_, rfl, tu, _, 0, _, rfl, rfl, ftu.sq, atI0, rfl, _, rfl, ?_⟩
    refine ite2 (fun c => ?_) (fun c => ⟨s6, acc, os, hA6, tA6, hos, by omega⟩)
    obtain ⟨kj, rfl⟩ := Kd.tag_bag (V.str.inj (of_decide_eq_true c))
    refine ⟨_, rfl, two_le, fun p1 o1 hp1 no1 => ⟨_, rfl, two_le, fun p2 o2 hp2 no2 => ?_⟩⟩
    have s7a := same_new hp1 (.frz o1 (.tup [.str "var", .str nm]))
    have s7 := s7a.trans (same_new hp2 (.frz o2 (.tup [.ref p1, .ref tu])))
    refine ⟨acc, s7 _ _ hA6, ?_, fun b o e => ?_, acc ++ [.ref p2], os ++ [(.var nm, kj)], upd_same, ?_, fun o ho => ?_, by rw [List.length_append]; exact Nat.succ_le_succ hol⟩
    · rw [tA6.len, List.length_map, sizeLine_eq]
      omega
    · rw [upd_ne (ne_of_none e hD)]
      exact s7 _ _ (s6 _ _ e)
    · rw [List.map_append]
      refine ((tA6.mono s7.fs).snoc ?_).mono (fs_lst (s7 _ _ hA6))
      exact .new hp2 no2 (.cons (.new hp1 no1 (.cons (.str _) (.cons (.str _) .nil))) (.cons (h2'.mono s7a.fs) .nil))
    · rcases List.mem_append.mp ho with ho | ho
      · exact hos o ho
      · obtain rfl := List.mem_singleton.mp ho
        have h5 : (Kd.bag kj).rank ≤ 5 := hG.2 _ (look_mem hlook)
        exact ⟨Nat.le_of_succ_le_succ h5, fun f => .ovar hlook⟩
  · obtain ⟨s6, acc, os, hA6, tA6, hos, hol⟩ := p
    have x6 := x4.same (s5.trans s6)
    have tk6 := tk4.mono (s5.trans s6).fs
    have kd6 := kd4.same (s5.trans s6)
    -- the second loop
    refine ⟨_, rfl, a, Γ, rfl, x6.lt hS ha hA, hG64, fun pm H7 ts2 its2 s7 hpm hPM hI2 hlk2 hil2 => ?_⟩
    have hlen2 : ts2.length = its2.length := Paired.length hI2
    have x7 := x6.same s7
    have tk7 := tk6.mono s7.fs
    have kd7 := kd6.same s7
    have hD7 := s7 _ _ hA6
    have hpmD : pm ≠ D := (ne_of_none hA6 hpm).symm
    refine ⟨pm, rfl, ⟨ts2, SqL.of hPM⟩, ?_⟩
    refine for_list (xs := ts2) (fun i σ H8 => ∃ y7 y8 os, σ = [some (.ref a), some (.int fu), some (.ref sd), some (.ref pk), some (.str tn), some (.ref p4), some (.ref D), y7, y8] ∧ But D H7 H8 ∧ LT H8 D (os.map odat) ∧ (∀ o ∈ os, OG Γ o) ∧ os.length ≤ 64 + i)
      ⟨none, none, os, rfl, .refl _ _, ⟨acc, hD7, tA6.mono s7.fs⟩, hos, by omega⟩ (fun i σ H8 _ p => ?_) (fun i x σ H8 hx p => ?_) (fun σ H8 p => ?_)
    · obtain ⟨_, _, _, _, b8, _⟩ := p
      exact SqL.of (b8 _ _ hpmD hPM)
    · obtain ⟨y7, y8, os2, rfl, b8, ⟨ax, hax, tax⟩, hos2, hol2⟩ := p
      obtain ⟨⟨nm, kn⟩, ei, t, u, rfl, h1, h2⟩ := paired_at hI2 hx
      have hlook : look nm Γ = some kn := hlk2 _ (List.mem_of_getElem? ei)
      have hi : i < 64 := by
        have := (List.getElem?_eq_some_iff.mp hx).1
        omega
      have f8 := b8.fs hD7
      have h1' := b8 _ _ (ne_of h1 hD7 (by intro z; cases z)) h1
      obtain ⟨vu, hgu, hvu⟩ := (kd7.but hD7 b8).get (t := "u") (k := .deep) rfl
      refine ⟨t, _, rfl, SqT.of h1', rfl, _, _, rfl, _, _, rfl, rfl, ?_⟩
      refine ⟨_, rfl, _, rfl, pk, vu, rfl, hgu, kn.enc, Kd.deep.enc, h2.mono f8, hvu, ?_, fun b hb => ⟨_, rfl, ?_⟩⟩
      · have := kd_depth kn
        have : kn.rank ≤ 5 := hG.2 _ (look_mem hlook)
        omega
      cases b with
      | false => exact iteF ⟨_, _, os2, rfl, b8, ⟨ax, hax, tax⟩, hos2, by omega⟩
      | true =>
        obtain rfl : kn = .deep := Kd.enc_inj (hb.mp rfl)
        refine iteT ⟨_, rfl, .inl ⟨rfl, _, .inl (.inl hax)⟩, _, rfl, two_le, fun p1 o1 hp1 no1 => ⟨three_le, fun p2 o2 hp2 no2 => ?_⟩⟩
        have s9a := same_new hp1 (.frz o1 (.tup [.str "var", .str nm]))
        have s9b := same_new hp2 (.frz o2 (.tup [.str "at", .str "t", .ref p1]))
        intro v9 H9 s9c t9
        refine ⟨two_le, fun p3 o3 hp3 no3 => ?_⟩
        have s9d := same_new hp3 (.frz o3 (.tup [.ref p2, v9]))
        have s9 := s9a.trans (s9b.trans (s9c.trans s9d))
        have hax9 := s9 _ _ hax
        refine ⟨D, ax, _, rfl, rfl, hax9, by rw [tax.len, List.length_map, sizeLine_eq]; omega, ?_⟩
        refine ⟨_, _, os2 ++ [(.att "t" (.var nm), .num)], rfl, (b8.trans s9.but).upd, ⟨_, upd_same, ?_⟩, fun o ho => ?_, by rw [List.length_append]; exact Nat.succ_le_succ hol2⟩
        · rw [List.map_append]
          refine ((tax.mono s9.fs).snoc ?_).mono (fs_lst hax9)
          refine .new hp3 no3 (.cons (Tp.mono ?_ s9c.fs) (.cons t9 .nil))
          exact .new hp2 no2 (.cons (.str _) (.cons (.str _) (.cons (.new hp1 no1 (.cons (.str _) (.cons (.str _) .nil))) .nil)))
        · rcases List.mem_append.mp ho with ho | ho
          · exact hos2 o ho
          · obtain rfl := List.mem_singleton.mp ho
            exact ⟨by show 1 ≤ 4; decide, fun f => .oat hlook⟩
    · obtain ⟨y7, y8, os2, rfl, b8, hLD, hos2, hol2⟩ := p
      have x8 : SX sd H H8 := ⟨fun b o h e => by
        have e6 := s7 _ _ (s6 _ _ (s5 _ _ (x4.1 _ _ h e)))
        have e5 := s5 _ _ (x4.1 _ _ h e)
        exact b8 _ _ (ne_of_none e5 hD) e6, by
        obtain ⟨n1, n2, n3, n4, e⟩ := x7.2
        exact ⟨n1, n2, n3, n4, b8 _ _ hDsd.symm e⟩⟩
      have tk8 := tk7.mono (b8.fs hD7)
      obtain ⟨wx, hw1, hwl⟩ := hLD.xs
      rw [List.length_map] at hwl
      have hkr := kdOf_rank hk
      apply with_rest (Ok := fun H2 => SX sd H H2 ∧ Tp H2 (.ref p4) (Kd.bag k).enc)
      case m =>
        intro rest
        refine ⟨_, rfl, Nat.zero_le _, fun e0 he0 => ?_⟩
        have s9 := same_new he0 (.lst [])
        have x9 := x8.same s9
        have tk9 := tk8.mono s9.fs
        refine ⟨D, e0, wx, rfl, rfl, SqL.of (s9 _ _ hw1), SqL.of upd_same, _, rfl, ?_⟩
        cases hwx : wx with
        | cons w0 wr =>
          refine iteT ?_
          refine ⟨_, rfl, sd, 3, rfl, x9.2, by decide, by decide, fun ra Ha ha0 ha1 xa => ⟨rfl, _, rfl, ?_⟩⟩
          have xa' := x9.trans xa
          have hLDa := xa.lt x9.2 hDsd (hLD.mono s9)
          have hqp : 0 < os2.length := by rw [← hwl, hwx]; exact Nat.succ_pos _
          refine ite2 (fun c => ?_) (fun c => rest _ ⟨xa', tk9.mono (xa.fs x9.2)⟩)
          obtain ⟨wx3, hw3e, hw3l⟩ := hLDa.xs
          rw [List.length_map] at hw3l
          refine ⟨_, rfl, _, rfl, _, rfl, D, _, rfl, .inl (SqL.of hw3e), sd, _, rfl, xa'.2, by rw [hw3l]; omega, by rw [hw3l]; omega, fun rb Hb hb0 hb1 xb => ?_⟩
          rw [hw3l] at hb1
          obtain ⟨xs, v, o0, e1, e2, e3, e4⟩ := (xb.lt xa'.2 hDsd hLDa).item hb0 hb1
          obtain ⟨g1, g2⟩ := hos2 o0 e3
          exact ⟨D, xs, _, v, rfl, rfl, SqL.of e1, e2, q _ _ o0.1 o0.2 (xa'.trans xb) e4 g1 (g2 _)⟩
        | nil => exact iteF (iteF (rest _ ⟨x9, tk9⟩))
      case r =>
        rintro Ha ⟨xa, tka⟩
        apply with_rest (Ok := fun H2 => SX sd H H2 ∧ Tp H2 (.ref p4) (Kd.bag k).enc)
        case m =>
          intro rest
          refine ⟨_, rfl, _, _, rfl, rfl, _, rfl, ?_⟩
          refine ite2 (fun cf => ?_) (fun cf => iteF (rest _ ⟨xa, tka⟩))
          have hf : 0 < fu := of_decide_eq_true cf
          refine ⟨_, rfl, sd, 4, rfl, xa.2, by decide, by decide, fun rb Hb hb0 hb1 xb => ⟨rfl, _, rfl, ?_⟩⟩
          have xb' := xa.trans xb
          have tkb := tka.mono (xb.fs xa.2)
          refine ite2 (fun c => ?_) (fun c => rest _ ⟨xb', tkb⟩)
          have e1 : (fu - 1).toNat = fu.toNat - 1 := by omega
          refine ⟨_, rfl, _, rfl, _, rfl, _, _, rfl, rfl, _, rfl, ?_⟩
          refine ⟨_, a, sd, fu - 1, .bag k, Γ, rfl, ?_, Nat.succ_le_succ hkr, by rw [e1]; exact hG.mono (by omega), tkb, xb'.lt hS ha hA, xb'.2, fun rc Hc qc xc tc gc => ?_⟩
          · rw [e1]
            simp only [Mode.lim]
            omega
          refine ⟨_, rfl, two_le, fun p o hp no => ?_⟩
          refine q _ _ qc k ((xb'.trans xc).same (same_new hp _)) (.new hp no (.cons tc (.cons (tkb.mono (xc.fs xb'.2)) .nil))) hkr ?_
          have ef : fu.toNat = (fu - 1).toNat + 1 := by omega
          rw [ef]
          exact .oask hk gc
        case r =>
          rintro Hb ⟨xb, tkb⟩
          refine ⟨_, rfl, two_le, fun p1 o1 hp1 no1 => ⟨_, rfl, two_le, fun p2 o2 hp2 no2 => ?_⟩⟩
          have s1 := same_new hp1 (.frz o1 (.tup [.str "table", .str tn]))
          exact q _ _ (.table tn) k (xb.same (s1.trans (same_new hp2 _))) (.new hp2 no2 (.cons (.new hp1 no1 (.cons (.str _) (.cons (.str _) .nil))) (.cons (tkb.mono s1.fs) .nil))) hkr (.otab hk)
end
end N97

/-! KaWc -/
set_option maxRecDepth 100000
set_option maxHeartbeats 8000000
namespace N97
open PySem PySem.Spec PyProof.Rows L2
abbrev sAsk : Stmt := topS 26
abbrev nAsk : List Str := ["kind", "scope", "fuel", "seed", "named", "ways", "way", "name", "other", "bound", "over"]
theorem scAsk : FnScope nAsk ["kind", "scope", "fuel", "seed"] (defScope sAsk) := ⟨rfl, rfl, rfl, by decide +kernel, rfl, by decide +kernel, by decide +kernel⟩
theorem TpAll.set {H : Hp} : ∀ {vs : List V} {ds : List PyData} {j : Nat} {v : V} {d : PyData}, TpAll H vs ds → Tp H v d → TpAll H (vs.set j v) (ds.set j d)
  | _, _, _, _, _, .nil, _ => .nil
  | _, _, 0, _, _, .cons _ t, h => .cons h t
  | _, _, j + 1, _, _, .cons a t, h => .cons a (t.set h)
abbrev fl5 : List Str := ["a", "c", "t", "u", "w"]
theorem cut5 {r : Int} (h0 : 0 ≤ r) (h1 : r < 5) : ∃ fl : List Str, cutV (fl5.map V.str) none (some (1 + r)) = fl.map V.str ∧ fl.Nodup ∧ fl.length ≤ 5 ∧ 0 < fl.length := by
  have : r = 0 ∨ r = 1 ∨ r = 2 ∨ r = 3 ∨ r = 4 := by omega
  rcases this with rfl | rfl | rfl | rfl | rfl
  · exact ⟨["a"], rfl, by decide, by decide, by decide⟩
  · exact ⟨["a", "c"], rfl, by decide, by decide, by decide⟩
  · exact ⟨["a", "c", "t"], rfl, by decide, by decide, by decide⟩
  · exact ⟨["a", "c", "t", "u"], rfl, by decide, by decide, by decide⟩
  · exact ⟨["a", "c", "t", "u", "w"], rfl, by decide, by decide, by decide⟩
section
variable {P : Program} {w : World} {K : PySem.W.Frag} {mg : Str → Option Value} {base : Heap}
theorem ok_tak1 {n : Nat} {f fA fD : Addr} {fd fdA fdD : FuncData} (F : Fun K "_law_taken" "_law_taken" sTak f fd)
    (GA : FnOk P w K mg base CX0 (n + 20) fA fdA ["kind", "scope", "fuel", "seed"] (spAsk n)) (bA : Binds K fdA ["kind", "scope", "fuel", "seed"] []) (kA : PySem.W.keepIn K (.ref fA) = true) (mA : mg "_law_asked" = some (.ref fA))
    (GD : FnOk P w K mg base CX0 1 fD fdD ["seed", "most"] spDraw) (bD : Binds K fdD ["seed", "most"] []) (kD : PySem.W.keepIn K (.ref fD) = true) (mD : mg "_law_draw" = some (.ref fD))
    (ml : mg "len" = none) (mt : mg "tuple" = none) :
    FnOk P w K mg base CX0 (n + 21) f fd ["kind", "scope", "fuel", "seed"] (spTak (n + 1)) := by
  refine F.ok scTak (fun vs H Q E h => ?_) (fun cdv A outer s H vs Q E hr h => ?_)
  · obtain ⟨kv, a, sd, fu, k, Γ, rfl, _⟩ := h
    rfl
  obtain ⟨kv, a, sd, fu, k, Γ, rfl, hn, hf, hk, hG, hT, hA, hS, q⟩ := h
  have hr1 := hr.mono (show 1 ≤ n + 20 by omega)
  refine ⟨_, pss_cons (ps_set (i := 4) scTak.nd rfl (.inl rfl) (pe_slice sl_list (pe_lst (pa_cons pe_str (pa_cons pe_str (pa_cons pe_str (pa_cons pe_str (pa_cons pe_str pa_nil)))))) po_none
        (po_some (pe_op op_add pe_int (pe_call GD hr1 rfl mD kD bD .nil pass0 (pa_cons (pv 3) (pa_cons pe_int pa_nil)))))))
    (pss_cons (ps_set (i := 5) scTak.nd rfl (.inl rfl) (pe_call GD hr1 rfl mD kD bD .nil pass0 (pa_cons (pv 3) (pa_cons (pe_callB call_len_seq (by rfl) ml PySem.boot_len (pa_cons (pv 4) pa_nil)) pa_nil))))
    (pss_cons (ps_setLc (i := 6) (own := [("field", 7)]) (g := gName 7) (tt := tYes) rfl scTak.nd rfl rfl (sw_true rfl rfl rfl rfl)
          (pi_list (pv 4)) (blkOk_by (N := nTak) (sc := defScope sTak) (by decide +kernel))
          (fun _ _ _ _ _ => pg_name (i := 7) scTak.nd rfl (.inl rfl)) (fun _ _ _ _ _ => pts_nil)
          (fun _ _ _ _ _ => pe_tupF (pa_cons (pv 7) (pa_cons (pe_conT (pa_con pe_conS (pa_con pe_conI pa_conN))) pa_nil))))
    (pss_cons (ps_asg (pe_tupF (pa_cons (pe_ix ix_list (pv 4) (pv 5) (fun _ _ => rfl)) (pa_cons (pe_call GA hr rfl mA kA bA .nil pass0 (pa_cons (pv 0) (pa_cons (pv 1) (pa_cons (pe_op op_sub (pv 2) pe_int) (pa_cons (pv 3) pa_nil))))) pa_nil))) (pg_sub (pv 6) (pv 5) set_list))
    (pss_one (ps_ret (pe_tupF (pa_cons pe_str (pa_cons (pe_ix ix_list (pv 4) (pv 5) (fun _ _ => rfl)) (pa_cons (pe_tupF (pa_cons pe_str (pa_cons (pe_callTy call_tupleF (by rfl) mt (by decide +kernel) (pa_cons (pv 6) pa_nil)) pa_nil))) pa_nil))))))))), ?_⟩
  have ha : a ≠ sd := hA.ne_sd hS tup_cs
  refine ⟨five_le, fun L hL => ?_⟩
  have x1 := SX.ofSame hS (same_new hL (.lst [.str "a", .str "c", .str "t", .str "u", .str "w"]))
  refine ⟨_, rfl, sd, 5, rfl, x1.2, by decide, by decide, fun r2 H2 h20 h21 x2 => ⟨_, _, rfl, rfl, _, rfl, ?_⟩⟩
  have x2' := x1.trans x2
  have hL2 := x2.1 _ _ (hS.ne hL).symm upd_same
  obtain ⟨fl, efl, hnd, hfl, hfp⟩ := cut5 h20 h21
  refine ⟨L, _, rfl, SqL.of hL2, fun pf hpf => ?_⟩
  rw [show cutV [V.str "a", .str "c", .str "t", .str "u", .str "w"] none (some (1 + r2)) = fl.map V.str from efl]
  have x3 := x2'.same (same_new hpf (.lst (fl.map V.str)))
  have hpfs : pf ≠ sd := (x2'.2.ne hpf).symm
  refine ⟨_, rfl, _, rfl, pf, _, rfl, .inl (SqL.of upd_same), sd, _, rfl, x3.2, by rw [List.length_map]; omega, by rw [List.length_map]; omega, fun r4 H4 h40 h41 x4 => ?_⟩
  rw [List.length_map] at h41
  have x4' := x3.trans x4
  have hF4 := x4.1 _ _ hpfs upd_same
  obtain ⟨j, rfl⟩ : ∃ j : Nat, r4 = (j : Int) := ⟨r4.toNat, by omega⟩
  have hj : j < fl.length := by omega
  have hjx : (fl.map V.str)[j]? = some (.str fl[j]) := by rw [List.getElem?_map, List.getElem?_eq_getElem hj]; rfl
  have f4 := x4'.fs hS
  -- parts
  refine ⟨_, rfl, pf, rfl, ⟨_, SqL.of hF4⟩, fun D hD => ?_⟩
  have hDsd : D ≠ sd := (x4'.2.ne hD).symm
  refine lc_listD (xs := fl.map V.str) (fl.map fun x => .tuple [.str x, .tuple [.str "num", .int 1]]) hD (SqL.of hF4) (by rw [List.length_map, List.length_map]) (by rw [List.length_map, sizeLine_eq]; omega) (fun i x d H5 C hx hd s5 c => ?_) (fun H5 acc s5 hA5 tA5 => ?_)
  · rw [List.getElem?_map] at hx hd
    obtain ⟨y, ey, rfl⟩ := Option.map_eq_some_iff.mp hx
    rw [ey] at hd
    cases hd
    refine ⟨rfl, _, rfl, fun v6 H6 s6 t6 => ⟨two_le, fun p o hp no => ?_⟩⟩
    exact c _ _ (s6.trans (same_new hp _)) (.new hp no (.cons (.str _) (.cons t6 .nil)))
  · have x5 := x4'.same s5
    have hF5 := s5 _ _ hF4
    have e1 : (fu - 1).toNat = fu.toNat - 1 := by omega
    refine ⟨_, rfl, _, rfl, pf, _, _, _, rfl, rfl, SqL.of hF5, atI_nat hjx, ?_⟩
    refine ⟨_, rfl, _, rfl, _, rfl, _, _, rfl, rfl, _, rfl, ?_⟩
    refine ⟨kv, a, sd, fu - 1, .bag k, Γ, rfl, ?_, hk, by rw [e1]; exact hG.mono (by omega), hT.mono (x5.fs hS), x5.lt hS ha hA, x5.2, fun r6 H6 q6 x6 t6 g6 => ⟨two_le, fun p7 o7 hp7 no7 => ?_⟩⟩
    · rw [e1]
      simp only [Mode.lim]
      omega
    have s7 := same_new hp7 (.frz o7 (.tup [.str fl[j], r6]))
    have hD6 := s7 _ _ (x6.1 _ _ hDsd hA5)
    have hF6 := s7 _ _ (x6.1 _ _ hpfs hF5)
    have x7 := (x5.trans x6).same s7
    have tA7 := (tA5.mono (x6.fs x5.2)).mono s7.fs
    have lacc : acc.length = fl.length := by rw [tA5.len, List.length_map]
    have hix : ixN acc.length (j : Int) = some j := by
      unfold ixN
      rw [if_pos (by omega), if_pos (by rw [lacc]; omega)]
      rfl
    refine ⟨_, rfl, _, rfl, D, acc, _, j, rfl, rfl, hD6, hix, ?_⟩
    have tp7 : Tp (upd H6 p7 (.frz o7 (.tup [.str fl[j], r6]))) (.ref p7) (.tuple [.str fl[j], q6.enc]) := .new hp7 no7 (.cons (.str _) (.cons t6 .nil))
    have tset := (tA7.set (j := j) tp7).mono (fs_lst (o := .lst (acc.set j (.ref p7))) hD6)
    have x8 : SX sd H (upd (upd H6 p7 (.frz o7 (.tup [.str fl[j], r6]))) D (.lst (acc.set j (.ref p7)))) := by
      refine ⟨fun b o h e => ?_, ?_⟩
      · have e4 := x4'.1 _ _ h e
        rw [upd_ne (ne_of_none e4 hD)]
        exact x7.1 _ _ h e
      · obtain ⟨n1, n2, n3, n4, e⟩ := x7.2
        exact ⟨n1, n2, n3, n4, by rw [upd_ne hDsd.symm]; exact e⟩
    have hDF : pf ≠ D := ne_of_none hF4 hD
    have hF8 : (upd (upd H6 p7 (.frz o7 (.tup [.str fl[j], r6]))) D (.lst (acc.set j (.ref p7)))) pf = some (.lst (fl.map V.str)) := by rw [upd_ne hDF]; exact hF6
    refine ⟨_, rfl, _, rfl, pf, _, _, _, rfl, rfl, SqL.of hF8, atI_nat hjx, ?_⟩
    refine ⟨_, rfl, D, _, rfl, SqL.of upd_same, fun p9 o9 hp9 no9 => ⟨two_le, fun pa oa hpa noa => ⟨three_le, fun pb ob hpb nob => ?_⟩⟩⟩
    have s9 := (same_new hp9 (.frz o9 (.tup (acc.set j (.ref p7))))).trans (same_new hpa (.frz oa (.tup [.str "row", .ref p9])))
    -- the question
    have eF : (fl.map fun x => (x, N97.Q.num 1)).set j (fl[j], q6) = (fl.map fun x => (x, N97.Q.num 1)).set j (fl[j], q6) := rfl
    have edat : (fl.map fun x => PyData.tuple [.str x, .tuple [.str "num", .int 1]]).set j (.tuple [.str fl[j], q6.enc]) = ((fl.map fun x => (x, N97.Q.num 1)).set j (fl[j], q6)).map fun p => .tuple [.str p.1, p.2.enc] := by
      rw [List.map_set, List.map_map]
      rfl
    rw [edat] at tset
    refine q _ _ (.att fl[j] (.row (.ofF ((fl.map fun x => (x, N97.Q.num 1)).set j (fl[j], q6))))) (x8.same (s9.trans (same_new hpb _))) ?_ ?_
    · refine .new hpb nob (.cons (.str _) (.cons (.str _) (.cons ?_ .nil)))
      refine .new hpa noa (.cons (.str _) (.cons ?_ .nil))
      rw [N97.Q.enc_ofF]
      exact .new hp9 no9 tset
    · have ef : fu.toNat = (fu - 1).toNat + 1 := by omega
      rw [ef]
      refine .ataken (x := fl[j]) (q := q6) ?_ (fun p hp => ?_) ?_ ?_ g6
      · refine List.mem_of_getElem? (i := j) ?_
        rw [List.getElem?_set_self (by rw [List.length_map]; exact hj)]
      · rcases List.mem_or_eq_of_mem_set hp with h | h
        · obtain ⟨y, _, rfl⟩ := List.mem_map.mp h
          exact .inl rfl
        · exact .inr h
      · rw [List.map_set, List.map_map]
        have : (fl.map ((fun p : Str × N97.Q => p.1) ∘ fun x => (x, N97.Q.num 1))) = fl := List.map_id' fl
        rw [this, List.set_getElem_self]
        exact hnd
      · rw [List.length_set, List.length_map]
        exact hfl
end
end N97

/-! KaWd -/
set_option maxRecDepth 100000
set_option maxHeartbeats 8000000
namespace N97
open PySem PySem.Spec PyProof.Rows L2
section
variable {P : Program} {w : World} {K : PySem.W.Frag} {mg : Str → Option Value} {base : Heap}
theorem or_split {a b : Bool} {A B X : Prop} (hX : (if b = true then A else B) → X) (hA : (a || b) = true → A) (hB : (a || b) = false → B) : if a = true then A else X := by
  cases a with
  | true => exact iteT (hA rfl)
  | false =>
    refine iteF (hX ?_)
    cases b with
    | true => exact iteT (hA rfl)
    | false => exact iteF (hB rfl)
theorem ok_ask1 {n : Nat} {f fS fC fO fT fK fH fD : Addr} {fd fdS fdC fdO fdT fdK fdH fdD : FuncData} (F : Fun K "_law_asked" "_law_asked" sAsk f fd)
    (GA : FnOk P w K mg base CX0 (n + 20) f fd ["kind", "scope", "fuel", "seed"] (spAsk n)) (bA : Binds K fd ["kind", "scope", "fuel", "seed"] []) (mA : mg "_law_asked" = some (.ref f))
    (GS : FnOk P w K mg base CX0 (n + 20) fS fdS ["kind", "scope", "fuel", "seed"] (spSml n)) (bS : Binds K fdS ["kind", "scope", "fuel", "seed"] []) (kS : PySem.W.keepIn K (.ref fS) = true) (mS : mg "_law_small" = some (.ref fS))
    (GC : FnOk P w K mg base CX0 (n + 20) fC fdC ["scope", "fuel", "seed"] (spClm n)) (bC : Binds K fdC ["scope", "fuel", "seed"] []) (kC : PySem.W.keepIn K (.ref fC) = true) (mC : mg "_law_claim" = some (.ref fC))
    (GO : FnOk P w K mg base CX0 (n + 20) fO fdO ["scope", "fuel", "seed"] (spOvr n)) (bO : Binds K fdO ["scope", "fuel", "seed"] []) (kO : PySem.W.keepIn K (.ref fO) = true) (mO : mg "_law_over" = some (.ref fO))
    (GT : FnOk P w K mg base CX0 (n + 20) fT fdT ["kind", "scope", "fuel", "seed"] (spTak n)) (bT : Binds K fdT ["kind", "scope", "fuel", "seed"] []) (kT : PySem.W.keepIn K (.ref fT) = true) (mT : mg "_law_taken" = some (.ref fT))
    (GK : FnOk P w K mg base CX0 1 fK fdK [] spKds) (bK : Binds K fdK [] []) (kK : PySem.W.keepIn K (.ref fK) = true) (mK : mg "_law_kinds" = some (.ref fK))
    (GH : FnOk P w K mg base CX0 2 fH fdH ["kind", "scope"] spHeld) (bH : Binds K fdH ["kind", "scope"] []) (kH : PySem.W.keepIn K (.ref fH) = true) (mH : mg "_law_held" = some (.ref fH))
    (GD : FnOk P w K mg base CX0 1 fD fdD ["seed", "most"] spDraw) (bD : Binds K fdD ["seed", "most"] []) (kD : PySem.W.keepIn K (.ref fD) = true) (mD : mg "_law_draw" = some (.ref fD))
    (ml : mg "len" = none) (ms : mg "sorted" = none) :
    FnOk P w K mg base CX0 (n + 21) f fd ["kind", "scope", "fuel", "seed"] (spAsk (n + 1)) := by
  refine F.ok scAsk (fun vs H Q E h => ?_) (fun cdv A outer s H vs Q E hr h => ?_)
  · obtain ⟨kv, a, sd, fu, k, Γ, rfl, _⟩ := h
    rfl
  obtain ⟨kv, a, sd, fu, k, Γ, rfl, hn, hk, hG, hT, hA, hS, q⟩ := h
  have hr1 := hr.mono (show 1 ≤ n + 20 by omega)
  have hr2 := hr.mono (show 2 ≤ n + 20 by omega)
  have hu : (A.deeper (envOfC "_law_asked" (defScope sAsk) s.heap.objs.size f cdv)).units + 200 < cLine := by have := hr.un; omega
  refine ⟨_, pss_cons (ps_if (pt_cmpR op_ne (pe_ix ix_tup (pv 0) pe_int (fun _ _ => rfl)) pe_str (nomark _)) (pss_one (ps_ret (pe_call GS hr rfl mS kS bS .nil pass0 (pa_cons (pv 0) (pa_cons (pv 1) (pa_cons (pv 2) (pa_cons (pv 3) pa_nil))))))) pss_nil)
    (pss_cons (ps_setLc (i := 4) (own := [("name", 7), ("other", 8)]) (g := gTup K 2 (gCons (gName 7) (gCons (gName 8) gNil))) (tt := tTest (tOp (rEqP K) (tTupF (tCons (L2.tC (.str "bag")) (tCons (tVar 8) tNil))) (tVar 0))) rfl scAsk.nd rfl rfl (sw_true rfl rfl rfl rfl)
          (pi_list (pe_sortItems rfl (pe_call0 GK hr1 rfl mK kK bK .nil pass0) rfl ms (by decide +kernel))) (blkOk_by (N := nAsk) (sc := defScope sAsk) (by decide +kernel))
          (fun _ _ _ _ _ => pg_tup rfl (pgs_cons (pg_name (i := 7) scAsk.nd rfl (.inl rfl)) (pgs_cons (pg_name (i := 8) scAsk.nd rfl (.inl rfl)) pgs_nil)))
          (fun _ _ _ _ _ => pts_one (pt_cmpR (op_eqPK K hu) (pe_tupF (pa_cons pe_str (pa_cons (pv 8) pa_nil))) (pv 0) (nomark _)))
          (fun _ _ _ _ _ => pe_tupF (pa_cons pe_str (pa_cons (pv 7) pa_nil))))
    (pss_cons (ps_set (i := 5) scAsk.nd rfl (.inl rfl) (pe_op op_cat (pe_op op_cat (pe_call GH hr2 rfl mH kH bH .nil pass0 (pa_cons (pv 0) (pa_cons (pv 1) pa_nil))) (pv 4)) (pv 4)))
    (pss_cons (ps_set (i := 6) scAsk.nd rfl (.inl rfl) (pe_call GD hr1 rfl mD kD bD .nil pass0 (pa_cons (pv 3) (pa_cons pe_int pa_nil))))
    (pss_cons (ps_if (PW.pt (pw_or (pt_cmpR op_le (pv 2) pe_int (nomark _)) (pw_or1 (pt_cmpR op_lt (pv 6) pe_int (nomark _)))))
      (pss_cons (ps_if (PW.pt (pw_and (pt_cmpR (op_eqNil hr.units0) (pv 5) (pe_lst pa_nil) (nomark _)) (pw_and1 (pt_cmpR op_eq (pe_call GD hr1 rfl mD kD bD .nil pass0 (pa_cons (pv 3) (pa_cons pe_int pa_nil))) pe_int (nomark _)))))
          (pss_one (ps_ret (pe_tupF (pa_cons pe_str (pa_cons (pe_call GS hr rfl mS kS bS .nil pass0 (pa_cons (pe_ix ix_tup (pv 0) pe_int (fun _ _ => rfl)) (pa_cons (pv 1) (pa_cons pe_int (pa_cons (pv 3) pa_nil))))) pa_nil))))) pss_nil)
      (pss_cons (ps_if (pt_cmpR (op_eqNil hr.units0) (pv 5) (pe_lst pa_nil) (nomark _)) (pss_one (ps_ret (pe_tupF (pa_cons pe_str (pa_cons (pe_ix ix_tup (pv 0) pe_int (fun _ _ => rfl)) pa_nil))))) pss_nil)
      (pss_one (ps_ret (pe_ix ix_list (pv 5) (pe_call GD hr1 rfl mD kD bD .nil pass0 (pa_cons (pv 3) (pa_cons (pe_callB call_len_seq (by rfl) ml PySem.boot_len (pa_cons (pv 5) pa_nil)) pa_nil))) (fun _ _ => rfl)))))) pss_nil)
    (pss_cons (ps_if (pt_cmpR op_eq (pv 6) pe_int (nomark _)) (pss_one (ps_ret (pe_tupF (pa_cons pe_str (pa_cons (pe_call GA hr rfl mA F.kp bA .nil pass0 (pa_cons (pv 0) (pa_cons (pv 1) (pa_cons (pe_op op_sub (pv 2) pe_int) (pa_cons (pv 3) pa_nil)))))
        (pa_cons (pe_call GA hr rfl mA F.kp bA .nil pass0 (pa_cons (pv 0) (pa_cons (pv 1) (pa_cons (pe_op op_sub (pv 2) pe_int) (pa_cons (pv 3) pa_nil))))) pa_nil)))))) pss_nil)
    (pss_cons (ps_if (pt_cmpR op_eq (pv 6) pe_int (nomark _)) (pss_one (ps_ret (pe_tupF (pa_cons pe_str (pa_cons (pe_op op_sub (pe_call GD hr1 rfl mD kD bD .nil pass0 (pa_cons (pv 3) (pa_cons pe_int pa_nil))) pe_int)
        (pa_cons (pe_call GA hr rfl mA F.kp bA .nil pass0 (pa_cons (pv 0) (pa_cons (pv 1) (pa_cons (pe_op op_sub (pv 2) pe_int) (pa_cons (pv 3) pa_nil))))) pa_nil)))))) pss_nil)
    (pss_cons (ps_if (pt_cmpR op_eq (pv 6) pe_int (nomark _)) (pss_one (ps_ret (pe_tupF (pa_cons pe_str (pa_cons (pe_call GC hr rfl mC kC bC .nil pass0 (pa_cons (pv 1) (pa_cons pe_int (pa_cons (pv 3) pa_nil))))
        (pa_cons (pe_call GA hr rfl mA F.kp bA .nil pass0 (pa_cons (pv 0) (pa_cons (pv 1) (pa_cons (pe_op op_sub (pv 2) pe_int) (pa_cons (pv 3) pa_nil))))) pa_nil)))))) pss_nil)
    (pss_cons (ps_if (pt_cmpR op_eq (pv 6) pe_int (nomark _)) (pss_one (ps_ret (pe_tupF (pa_cons pe_str (pa_cons (pe_call GS hr rfl mS kS bS .nil pass0 (pa_cons (pe_ix ix_tup (pv 0) pe_int (fun _ _ => rfl)) (pa_cons (pv 1) (pa_cons (pe_op op_sub (pv 2) pe_int) (pa_cons (pv 3) pa_nil))))) pa_nil))))) pss_nil)
    (pss_cons (ps_if (pt_cmpR op_eq (pv 6) pe_int (nomark _)) (pss_one (ps_ret (pe_call GT hr rfl mT kT bT .nil pass0 (pa_cons (pv 0) (pa_cons (pv 1) (pa_cons (pv 2) (pa_cons (pv 3) pa_nil))))))) pss_nil)
    (pss_cons (ps_if (PW.pt (pw_and (pt_cmpR op_eq (pv 6) pe_int (nomark _)) (pw_and1 (pt_cmpR op_eq (pe_call GD hr1 rfl mD kD bD .nil pass0 (pa_cons (pv 3) (pa_cons pe_int pa_nil))) pe_int (nomark _)))))
        (pss_one (ps_ret (pe_tupF (pa_cons pe_str (pa_cons (pe_ix ix_tup (pv 0) pe_int (fun _ _ => rfl)) pa_nil))))) pss_nil)
    (pss_cons (ps_set (i := 7) scAsk.nd rfl (.inl rfl) (pe_ix ix_list (pe_lst (pa_cons pe_str (pa_cons pe_str (pa_cons pe_str pa_nil)))) (pe_call GD hr1 rfl mD kD bD .nil pass0 (pa_cons (pv 3) (pa_cons pe_int pa_nil))) (fun _ _ => rfl)))
    (pss_cons (ps_if (pt_cmpR op_eq (pv 6) pe_int (nomark _))
      (pss_cons (ps_set (i := 8) scAsk.nd rfl (.inl rfl) (pe_ix ix_list (pe_lst (pa_cons (pe_conT (pa_con pe_conS pa_conN)) (pa_cons (pe_conT (pa_con pe_conS (pa_con (pe_conT (pa_con pe_conS pa_conN)) pa_conN))) pa_nil))) (pe_call GD hr1 rfl mD kD bD .nil pass0 (pa_cons (pv 3) (pa_cons pe_int pa_nil))) (fun _ _ => rfl)))
      (pss_cons (ps_set (i := 9) scAsk.nd rfl (.inl rfl) (pe_call GA hr rfl mA F.kp bA .nil pass0 (pa_cons (pv 8) (pa_cons (pv 1) (pa_cons (pe_op op_sub (pv 2) pe_int) (pa_cons (pv 3) pa_nil))))))
      (pss_one (ps_ret (pe_tupF (pa_cons pe_str (pa_cons (pv 7) (pa_cons (pv 9) (pa_cons (pe_call GA hr rfl mA F.kp bA .nil pass0 (pa_cons (pv 0) (pa_cons (pe_op op_cat (pe_lst (pa_cons (pe_tupF (pa_cons (pv 7) (pa_cons (pv 8) pa_nil))) pa_nil)) (pv 1)) (pa_cons (pe_op op_sub (pv 2) pe_int) (pa_cons (pv 3) pa_nil))))) pa_nil))))))))) pss_nil)
    (pss_cons (ps_asg (pe_call GO hr rfl mO kO bO .nil pass0 (pa_cons (pv 1) (pa_cons (pe_op op_sub (pv 2) pe_int) (pa_cons (pv 3) pa_nil)))) (pg_tup rfl (pgs_cons (pg_name (i := 10) scAsk.nd rfl (.inl rfl)) (pgs_cons (pg_name (i := 8) scAsk.nd rfl (.inl rfl)) pgs_nil))))
    (pss_one (ps_ret (pe_tupF (pa_cons pe_str (pa_cons (pv 7) (pa_cons (pv 10) (pa_cons (pe_call GA hr rfl mA F.kp bA .nil pass0 (pa_cons (pv 0) (pa_cons (pe_op op_cat (pe_lst (pa_cons (pe_tupF (pa_cons (pv 7) (pa_cons (pe_ix ix_tup (pv 8) pe_int (fun _ _ => rfl)) pa_nil))) pa_nil)) (pv 1)) (pa_cons (pe_op op_sub (pv 2) pe_int) (pa_cons (pv 3) pa_nil))))) pa_nil)))))))))))))))))))), ?_⟩
  have ha : a ≠ sd := hA.ne_sd hS tup_cs
  by_cases hb : ∃ k', k = .bag k'
  case neg =>
    have hnb : ∀ k', k ≠ .bag k' := fun k' e => hb ⟨k', e⟩
    obtain ⟨tk, tr, rfl, ftk⟩ := hT.tag
    have e0 : (!decide (V.str k.tag = V.str "bag")) = true := by
      rw [decide_eq_false (fun z => by
        obtain ⟨j, e⟩ := Kd.tag_bag (V.str.inj z)
        exact hnb j e)]
      rfl
    refine ⟨_, rfl, tk, _, 0, _, rfl, rfl, ftk.sq, atI0, rfl, _, rfl, iteTe e0 ?_⟩
    refine ⟨_, rfl, _, rfl, _, rfl, _, rfl, ?_⟩
    refine ⟨_, a, sd, fu, k, Γ, rfl, ?_, hk, hG, hT, hA, hS, fun r H2 q2 x2 t2 g2 => q r H2 q2 x2 t2 (.asml hnb g2)⟩
    have : (Mode.ask k).lim fu.toNat = 20 * fu.toNat + (2 * k.rank + 2) := by
      cases k with
      | bag j => exact absurd rfl (hnb j)
      | _ => rfl
    rw [this] at hn
    simp only [Mode.lim]
    omega
  obtain ⟨k', rfl⟩ := hb
  have hrk : (Kd.bag k').rank = k'.rank + 1 := rfl
  have hlim : 20 * fu.toNat + (2 * k'.rank + 2) ≤ n + 1 := hn
  have hkp := k'.rank_pos
  obtain ⟨tk, y0, ykk, rfl, fk, tk0, tkk⟩ := hT.i2
  obtain rfl := tk0.strI
  refine ⟨_, rfl, tk, _, 0, _, rfl, rfl, fk.sq, rfl, rfl, _, rfl, iteF ?_⟩
  -- named
  refine ⟨rfl, fun pk H1 s1 kd1 => ?_⟩
  obtain ⟨vl, vt, vd, vv, hkd, tl, tt, td, tv⟩ := kd1
  refine ⟨pk, [("r", vl), ("s", vl), ("t", vt), ("u", vd), ("v", vv)], rfl, hkd, (show (["r", "s", "t", "u", "v"] : List Str).Nodup by decide), (show 5 < 64 by decide), fun H2 pn ts ys s2_ hpn hperm hl2 hpr => ?_⟩
  have s2 : Same H1 H2 := s2_
  have hks : ∀ y ∈ [(("r" : Str), vl), ("s", vl), ("t", vt), ("u", vd), ("v", vv)], ∃ kd, kdOf y.1 = some kd ∧ Tp H1 y.2 kd.enc := by
    intro y hy
    simp only [List.mem_cons, List.not_mem_nil, or_false] at hy
    rcases hy with rfl | rfl | rfl | rfl | rfl
    · exact ⟨_, rfl, tl⟩
    · exact ⟨_, rfl, tl⟩
    · exact ⟨_, rfl, tt⟩
    · exact ⟨_, rfl, td⟩
    · exact ⟨_, rfl, tv⟩
  have x2 := SX.ofSame hS (s1.trans s2)
  have hlts : ts.length = ys.length := Paired.length hpr
  have hys : ys.length = 5 := hperm.length_eq
  refine ⟨pn, rfl, ⟨_, SqL.of hl2⟩, fun D hD => ?_⟩
  have hDsd : D ≠ sd := (x2.2.ne hD).symm
  refine lc_list (xs := ts.map V.ref) (fun i H3 => Same H2 H3 ∧ ∃ acc qs, H3 D = some (.lst acc) ∧ TpAll H3 acc (qs.map N97.Q.enc) ∧ (∀ q ∈ qs, ∃ t, kdOf t = some k' ∧ q = N97.Q.table t) ∧ qs.length ≤ i)
    ⟨same_new hD _, [], [], upd_same, .nil, (fun o h => nomatch h), Nat.le_refl _⟩ (fun i H3 _ p => SqL.of (p.1 _ _ hl2)) (fun i x H3 hx p => ?_) (fun H3 p => ?_)
  · obtain ⟨s3, acc, qs, hA3, tA3, hqs, hql⟩ := p
    rw [List.getElem?_map] at hx
    obtain ⟨t, ht, rfl⟩ := Option.map_eq_some_iff.mp hx
    obtain ⟨⟨nm, u⟩, ey, h1⟩ := paired_at hpr ht
    obtain ⟨kd, hkd2, tkd⟩ := hks _ (hperm.mem_iff.mp (List.mem_of_getElem? ey))
    have hi : i < 5 := by
      have := (List.getElem?_eq_some_iff.mp ey).1
      omega
    have tkd3 := tkd.mono (s2.trans s3).fs
    refine ⟨t, _, rfl, SqT.of (s3 _ _ h1), rfl, _, _, rfl, _, _, rfl, rfl, rfl, ?_⟩
    refine ⟨_, rfl, two_le, fun p o hp no => ?_⟩
    have s4 := same_new hp (.frz o (.tup [.str "bag", u]))
    refine ⟨_, rfl, (Kd.bag kd).enc, (Kd.bag k').enc, .new hp no (.cons (.str _) (.cons tkd3 .nil)), hT.mono (s1.trans (s2.trans (s3.trans s4))).fs, ?_, fun b hb => ⟨_, rfl, ?_⟩⟩
    · have := kd_depth (.bag kd)
      have := kdOf_rank hkd2
      have : (Kd.bag kd).rank = kd.rank + 1 := rfl
      omega
    cases b with
    | false => exact iteF ⟨s3.trans s4, acc, qs, s4 _ _ hA3, tA3.mono s4.fs, hqs, by omega⟩
    | true =>
      have ek : Kd.bag kd = Kd.bag k' := Kd.enc_inj (hb.mp rfl)
      obtain rfl : kd = k' := Kd.bag.inj ek
      refine iteT ⟨_, rfl, two_le, fun p1 o1 hp1 no1 => ?_⟩
      have s5 := s4.trans (same_new hp1 (.frz o1 (.tup [.str "table", .str nm])))
      refine ⟨acc, s5 _ _ hA3, ?_, fun b o e => ?_, acc ++ [.ref p1], qs ++ [.table nm], upd_same, ?_, fun q hq => ?_, by rw [List.length_append]; exact Nat.succ_le_succ hql⟩
      · rw [tA3.len, List.length_map, sizeLine_eq]
        omega
      · rw [upd_ne (ne_of_none e hD)]
        exact s5 _ _ (s3 _ _ e)
      · rw [List.map_append]
        exact ((tA3.mono s5.fs).snoc (.new hp1 no1 (.cons (.str _) (.cons (.str _) .nil)))).mono (fs_lst (s5 _ _ hA3))
      · rcases List.mem_append.mp hq with hq | hq
        · exact hqs q hq
        · obtain rfl := List.mem_singleton.mp hq
          exact ⟨nm, hkd2, rfl⟩
  -- ways
  obtain ⟨s3, nx, nqs, hN3, tN3, hnq, hnl⟩ := p
  have hnl5 : nqs.length ≤ 5 := by
    rw [List.length_map] at hnl
    omega
  have sA := s1.trans (s2.trans s3)
  refine ⟨_, rfl, _, rfl, .ref tk, a, .bag k', Γ, rfl, by omega, fun p hp => Nat.le_trans (hG.2 p hp) (by decide), by have := hG.1; omega, hT.mono sA.fs, hA.mono sA, fun ph H4 hqs s4 hH4 hheld hhl => ?_⟩
  obtain ⟨hx, hHx, tHx⟩ := hH4
  have hN4 := s4 _ _ hN3
  have lhx : hx.length = hqs.length := by rw [tHx.len, List.length_map]
  have lnx : nx.length = nqs.length := by rw [tN3.len, List.length_map]
  refine ⟨_, rfl, ph, D, hx, nx, rfl, rfl, hHx, hN4, by rw [sizeLine_eq]; omega, fun p5 hp5 => ?_⟩
  have s5 := same_new hp5 (.lst (hx ++ nx))
  refine ⟨_, rfl, p5, D, _, nx, rfl, rfl, upd_same, s5 _ _ hN4, by rw [List.length_append, sizeLine_eq]; omega, fun pw hpw => ?_⟩
  have s6 := same_new hpw (.lst (hx ++ nx ++ nx))
  have sB := s4.trans (s5.trans s6)
  have hWays : LT (upd (upd H4 p5 (.lst (hx ++ nx))) pw (.lst (hx ++ nx ++ nx))) pw ((hqs ++ nqs ++ nqs).map N97.Q.enc) := by
    refine ⟨_, upd_same, ?_⟩
    rw [List.map_append, List.map_append]
    exact ((tHx.mono (s5.trans s6).fs).app (tN3.mono sB.fs)).app (tN3.mono sB.fs)
  have hWG : ∀ w ∈ hqs ++ nqs ++ nqs, ∀ f, Gen (.ask (.bag k')) Γ f w := by
    intro w hw f
    have hn2 : w ∈ nqs → Gen (.ask (.bag k')) Γ f w := fun h => by
      obtain ⟨t, h1, rfl⟩ := hnq w h
      exact .atab h1
    rcases List.mem_append.mp hw with hw | hw
    · rcases List.mem_append.mp hw with hw | hw
      · exact .aheld (hheld w hw)
      · exact hn2 hw
    · exact hn2 hw
  have hwl : (hqs ++ nqs ++ nqs).length ≤ 1010 := by
    rw [List.length_append, List.length_append]
    omega
  have x6 := SX.ofSame hS (sA.trans sB)
  generalize hqs ++ nqs ++ nqs = ws at hWays hWG hwl
  generalize (upd (upd H4 p5 (.lst (hx ++ nx))) pw (.lst (hx ++ nx ++ nx))) = H6 at hWays x6 ⊢
  have hpwsd : pw ≠ sd := hWays.ne_sd x6.2 tup_qs
  refine ⟨_, rfl, sd, 12, rfl, x6.2, by decide, by decide, fun way H7 h70 h71 x7 => ?_⟩
  have hW7 := x7.lt x6.2 hpwsd hWays
  have x7' := x6.trans x7
  clear hWays
  have hls : (Mode.sml k').lim (0 : Int).toNat ≤ n := by
    show 20 * 0 + (2 * k'.rank + 1) ≤ n
    omega
  have hG0 : CO Γ (0 : Int).toNat := hG.mono (Nat.zero_le _)
  refine ⟨_, rfl, _, _, rfl, rfl, _, rfl, or_split (fun h => ⟨_, rfl, _, _, rfl, rfl, _, rfl, h⟩) (fun _ => ?_) (fun hcond => ?_)⟩
  · -- fuel <= 0 or way < 2
    obtain ⟨wx, hw1, hwl2⟩ := hW7.xs
    rw [List.length_map] at hwl2
    refine ⟨_, rfl, Nat.zero_le _, fun e0 he0 => ?_⟩
    have s8 := same_new he0 (.lst [])
    have x8 := x7'.same s8
    refine ⟨pw, e0, wx, rfl, rfl, SqL.of (s8 _ _ hw1), SqL.of upd_same, _, rfl, ?_⟩
    have hW8 := hW7.mono s8
    have hw8 := s8 _ _ hw1
    generalize upd H7 e0 (.lst []) = H8 at x8 hW8 hw8 ⊢
    cases hwx : wx with
    | nil =>
      subst hwx
      refine iteT ?_
      refine ⟨_, rfl, sd, 2, rfl, x8.2, by decide, by decide, fun r9 H9 h90 h91 x9 => ⟨rfl, _, rfl, ?_⟩⟩
      have x9' := x8.trans x9
      refine ite2 (fun c => ?_) (fun c => ?_)
      · refine ⟨_, rfl, tk, _, 1, _, rfl, rfl, (fk.mono (x9'.fs hS)).sq, rfl, _, rfl, _, rfl, ?_⟩
        refine ⟨ykk, a, sd, 0, k', Γ, rfl, hls, by omega, hG0, tkk.mono (x9'.fs hS), x9'.lt hS ha hA, x9'.2, fun r Ha qa xa ta ga => ⟨two_le, fun p o hp no => ?_⟩⟩
        exact q _ _ (.one qa) ((x9'.trans xa).same (same_new hp _)) (.new hp no (.cons (.str _) (.cons ta .nil))) (.aone0 ga)
      · refine ⟨_, rfl, Nat.zero_le _, fun e1 he1 => ?_⟩
        have sa := same_new he1 (.lst [])
        refine ⟨pw, e1, [], rfl, rfl, SqL.of (sa _ _ (x9.1 _ _ hpwsd hw8)), SqL.of upd_same, _, rfl, iteT ?_⟩
        have xa := x9'.same sa
        refine ⟨_, rfl, tk, _, 1, _, rfl, rfl, (fk.mono (xa.fs hS)).sq, rfl, two_le, fun p o hp no => ?_⟩
        exact q _ _ (.none_ k') (xa.same (same_new hp _)) (.new hp no (.cons (.str _) (.cons (tkk.mono (xa.fs hS)) .nil))) .anone
    | cons w0 wr =>
      refine iteF (iteF ?_)
      refine ⟨_, rfl, Nat.zero_le _, fun e1 he1 => ?_⟩
      have sa := same_new he1 (.lst [])
      refine ⟨pw, e1, wx, rfl, rfl, SqL.of (sa _ _ hw8), SqL.of upd_same, _, rfl, ?_⟩
      rw [hwx]
      refine iteF ?_
      have xa := x8.same sa
      have hWa := hW8.mono sa
      have hqp : 0 < ws.length := by rw [← hwl2, hwx]; exact Nat.succ_pos _
      refine ⟨_, rfl, _, rfl, _, rfl, pw, _, rfl, .inl (SqL.of (sa _ _ hw8)), sd, _, rfl, xa.2, by rw [hwl2]; omega, by rw [hwl2]; omega, fun rb Hb hb0 hb1 xb => ?_⟩
      rw [hwl2] at hb1
      obtain ⟨xs, v, q0, e1, e2, e3, e4⟩ := (xb.lt xa.2 hpwsd hWa).item hb0 hb1
      exact ⟨pw, xs, _, v, rfl, rfl, SqL.of e1, e2, q _ _ q0 (xa.trans xb) e4 (hWG q0 e3 _)⟩
  -- fuel is left
  have hf : 0 < fu := by
    rw [Bool.or_eq_false_iff] at hcond
    have := of_decide_eq_false hcond.1
    omega
  have ef : fu.toNat = (fu - 1).toNat + 1 := by omega
  have hla : (Mode.ask (.bag k')).lim (fu - 1).toNat ≤ n := by
    show 20 * (fu - 1).toNat + (2 * k'.rank + 2) ≤ n
    omega
  have hG1 : CO Γ (fu - 1).toNat := hG.mono (by omega)
  have hTx : ∀ {H2 : Hp}, SX sd H H2 → Tp H2 (.ref tk) (Kd.bag k').enc := fun x => hT.mono (x.fs hS)
  have hAx : ∀ {H2 : Hp}, SX sd H H2 → LT H2 a (Γ.map cdat) := fun x => x.lt hS ha hA
  clear hW7
  -- both
  refine ⟨_, rfl, rfl, _, rfl, ite2 (fun c => ?_) (fun c => ?_)⟩
  · refine ⟨_, rfl, _, rfl, _, rfl, _, _, rfl, rfl, _, rfl, ?_⟩
    refine ⟨_, a, sd, fu - 1, .bag k', Γ, rfl, hla, hk, hG1, hTx x7', hAx x7', x7'.2, fun r8 H8 q8 x8 t8 g8 => ?_⟩
    have x8' := x7'.trans x8
    refine ⟨_, rfl, _, rfl, _, rfl, _, _, rfl, rfl, _, rfl, ?_⟩
    refine ⟨_, a, sd, fu - 1, .bag k', Γ, rfl, hla, hk, hG1, hTx x8', hAx x8', x8'.2, fun r9 H9 q9 x9 t9 g9 => ⟨three_le, fun p o hp no => ?_⟩⟩
    refine q _ _ (.both q8 q9) ((x8'.trans x9).same (same_new hp _)) (.new hp no (.cons (.str _) (.cons (t8.mono (x9.fs x8'.2)) (.cons t9 .nil)))) ?_
    rw [ef]
    exact .aboth g8 g9
  -- times
  refine ⟨_, rfl, rfl, _, rfl, ite2 (fun c => ?_) (fun c => ?_)⟩
  · refine ⟨_, rfl, sd, 7, rfl, x7'.2, by decide, by decide, fun r8 H8 h80 h81 x8 => ⟨_, _, rfl, rfl, ?_⟩⟩
    have x8' := x7'.trans x8
    refine ⟨_, rfl, _, rfl, _, rfl, _, _, rfl, rfl, _, rfl, ?_⟩
    refine ⟨_, a, sd, fu - 1, .bag k', Γ, rfl, hla, hk, hG1, hTx x8', hAx x8', x8'.2, fun r9 H9 q9 x9 t9 g9 => ⟨three_le, fun p o hp no => ?_⟩⟩
    refine q _ _ (.times (r8 - 3) q9) ((x8'.trans x9).same (same_new hp _)) (.new hp no (.cons (.str _) (.cons (.int _) (.cons t9 .nil)))) ?_
    rw [ef]
    exact .atimes (by omega) g9
  -- when
  refine ⟨_, rfl, rfl, _, rfl, ite2 (fun c => ?_) (fun c => ?_)⟩
  · refine ⟨_, rfl, _, rfl, a, sd, 1, Γ, rfl, ?_, hG.mono (show 1 ≤ fu.toNat by omega), hAx x7', x7'.2, fun r8 H8 q8 x8 t8 g8 => ?_⟩
    · show 2 * 1 + 6 ≤ n
      omega
    have x8' := x7'.trans x8
    refine ⟨_, rfl, _, rfl, _, rfl, _, _, rfl, rfl, _, rfl, ?_⟩
    refine ⟨_, a, sd, fu - 1, .bag k', Γ, rfl, hla, hk, hG1, hTx x8', hAx x8', x8'.2, fun r9 H9 q9 x9 t9 g9 => ⟨three_le, fun p o hp no => ?_⟩⟩
    refine q _ _ (.when_ q8 q9) ((x8'.trans x9).same (same_new hp _)) (.new hp no (.cons (.str _) (.cons (t8.mono (x9.fs x8'.2)) (.cons t9 .nil)))) ?_
    rw [ef]
    exact .awhen g8 g9
  -- one
  refine ⟨_, rfl, rfl, _, rfl, ite2 (fun c => ?_) (fun c => ?_)⟩
  · refine ⟨_, rfl, tk, _, 1, _, rfl, rfl, (fk.mono (x7'.fs hS)).sq, rfl, _, rfl, _, rfl, _, _, rfl, rfl, _, rfl, ?_⟩
    refine ⟨ykk, a, sd, fu - 1, k', Γ, rfl, ?_, by omega, hG1, tkk.mono (x7'.fs hS), hAx x7', x7'.2, fun r8 H8 q8 x8 t8 g8 => ⟨two_le, fun p o hp no => ?_⟩⟩
    · show 20 * (fu - 1).toNat + (2 * k'.rank + 1) ≤ n
      omega
    refine q _ _ (.one q8) ((x7'.trans x8).same (same_new hp _)) (.new hp no (.cons (.str _) (.cons t8 .nil))) ?_
    rw [ef]
    exact .aone g8
  -- taken
  refine ⟨_, rfl, rfl, _, rfl, ite2 (fun c => ?_) (fun c => ?_)⟩
  · refine ⟨_, rfl, _, rfl, _, rfl, _, rfl, ?_⟩
    exact ⟨_, a, sd, fu, k', Γ, rfl, by omega, hf, hk, hG, hTx x7', hAx x7', x7'.2, fun r8 H8 q8 x8 t8 g8 => q r8 H8 q8 (x7'.trans x8) t8 g8⟩
  -- none
  apply with_rest (Ok := fun H2 => SX sd H H2)
  case m =>
    intro rest
    refine ⟨_, rfl, rfl, _, rfl, ?_⟩
    refine ite2 (fun c => ?_) (fun c => iteF (rest _ x7'))
    refine ⟨_, rfl, sd, 2, rfl, x7'.2, by decide, by decide, fun r8 H8 h80 h81 x8 => ⟨rfl, _, rfl, ?_⟩⟩
    have x8' := x7'.trans x8
    refine ite2 (fun c => ?_) (fun c => rest _ x8')
    refine ⟨_, rfl, tk, _, 1, _, rfl, rfl, (fk.mono (x8'.fs hS)).sq, rfl, two_le, fun p o hp no => ?_⟩
    exact q _ _ (.none_ k') (x8'.same (same_new hp _)) (.new hp no (.cons (.str _) (.cons (tkk.mono (x8'.fs hS)) .nil))) .anone
  case r =>
    intro H8 x8
    refine ⟨three_le, fun L hL => ?_⟩
    have x9 := x8.same (same_new hL (.lst [.str "t", .str "s", .str "z"]))
    refine ⟨_, rfl, sd, 3, rfl, x9.2, by decide, by decide, fun ra Ha ha0 ha1 xa => ?_⟩
    have xa' := x9.trans xa
    have hLa := xa.1 _ _ (x8.2.ne hL).symm upd_same
    obtain ⟨v, hv, hm⟩ := atI_mem (xs := [V.str "t", .str "s", .str "z"]) ha0 ha1
    obtain ⟨nm, rfl⟩ : ∃ z, v = .str z := by
      simp only [List.mem_cons, List.not_mem_nil, or_false] at hm
      rcases hm with rfl | rfl | rfl <;> exact ⟨_, rfl⟩
    refine ⟨L, _, _, _, rfl, rfl, SqL.of hLa, hv, ?_⟩
    refine ⟨_, rfl, rfl, _, rfl, ite2 (fun c => ?_) (fun c => ?_)⟩
    · -- let
      intro v1 H1' s1' t1' v2 H2' s2' t2'
      refine ⟨two_le, fun L2 hL2 => ?_⟩
      have sb := s1'.trans (s2'.trans (same_new hL2 (.lst [v1, v2])))
      have xb := xa'.same sb
      refine ⟨_, rfl, sd, 2, rfl, xb.2, by decide, by decide, fun rc Hc hc0 hc1 xc => ?_⟩
      have xc' := xb.trans xc
      have hLc := xc.1 _ _ ((xa'.same (s1'.trans s2')).2.ne hL2).symm upd_same
      obtain ⟨ov, hov, hom⟩ := atI_mem (xs := [v1, v2]) hc0 hc1
      have fc := xc.fs xb.2
      obtain ⟨o, ho, tov⟩ : ∃ o : Kd, (o = .num ∨ o = .bag .num) ∧ Tp Hc ov o.enc := by
        simp only [List.mem_cons, List.not_mem_nil, or_false] at hom
        rcases hom with rfl | rfl
        · exact ⟨.num, .inl rfl, (t1'.mono (s2'.trans (same_new hL2 _)).fs).mono fc⟩
        · exact ⟨.bag .num, .inr rfl, (t2'.mono (same_new hL2 _).fs).mono fc⟩
      refine ⟨L2, _, _, ov, rfl, rfl, SqL.of hLc, hov, ?_⟩
      have hor : o.rank ≤ 2 := by rcases ho with rfl | rfl <;> decide
      refine ⟨_, rfl, _, rfl, _, rfl, _, _, rfl, rfl, _, rfl, ?_⟩
      refine ⟨_, a, sd, fu - 2, o, Γ, rfl, ?_, by omega, hG.mono (by omega), tov, hAx xc', xc'.2, fun rd Hd qd xd td gd => ?_⟩
      · have := ask_lim o (fu - 2).toNat
        omega
      have xd' := xc'.trans xd
      have tovd := tov.mono (xd.fs xc'.2)
      refine ⟨_, rfl, _, rfl, _, rfl, _, rfl, _, rfl, two_le, fun p1 o1 hp1 no1 => ⟨one_le1, fun L3 hL3 => ?_⟩⟩
      have s1 := same_new hp1 (.frz o1 (.tup [.str nm, ov]))
      have s2 := same_new hL3 (.lst [.ref p1])
      have xe := xd'.same (s1.trans s2)
      obtain ⟨ax, hax, tax⟩ := hAx xe
      have lax : ax.length = Γ.length := by rw [tax.len, List.length_map]
      have hGl := hG.1
      refine ⟨_, rfl, L3, a, _, ax, rfl, rfl, upd_same, hax, by rw [sizeLine_eq]; simp only [List.length_cons, List.length_nil]; omega, fun pS hpS => ?_⟩
      have s3 := same_new hpS (.lst ([.ref p1] ++ ax))
      have xf := xe.same s3
      have hSc : LT (upd (upd (upd Hd p1 (.frz o1 (.tup [.str nm, ov]))) L3 (.lst [.ref p1])) pS (.lst ([.ref p1] ++ ax))) pS (((nm, o) :: Γ).map cdat) := by
        refine ⟨_, upd_same, .cons (Tp.mono ?_ (s2.trans s3).fs) (tax.mono s3.fs)⟩
        exact .new hp1 no1 (.cons (.str _) (.cons tovd .nil))
      refine ⟨_, rfl, _, _, rfl, rfl, _, rfl, ?_⟩
      refine ⟨_, pS, sd, fu - 1, .bag k', (nm, o) :: Γ, rfl, hla, hk, ⟨?_, ?_⟩, hTx xf, hSc, xf.2, fun rg Hg qg xg tg gg => ⟨four_le, fun p o hp no => ?_⟩⟩
      · rw [List.length_cons]
        omega
      · intro p hp
        rcases List.mem_cons.mp hp with rfl | hp
        · show o.rank ≤ 5
          omega
        · exact hG.2 p hp
      have td' := td.mono ((((SX.ofSame xd'.2 (s1.trans (s2.trans s3))).trans xg)).fs xd'.2)
      refine q _ _ (.let_ nm qd qg) ((xf.trans xg).same (same_new hp _)) (.new hp no (.cons (.str _) (.cons (.str _) (.cons td' (.cons tg .nil))))) ?_
      rw [ef]
      refine .alet ho ?_ gg
      have : (fu - 2).toNat = (fu - 1).toNat - 1 := by omega
      rw [← this]
      exact gd
    · -- for
      refine ⟨_, rfl, _, rfl, _, _, rfl, rfl, _, rfl, ?_⟩
      refine ⟨a, sd, fu - 1, Γ, rfl, by omega, hG1, hAx xa', xa'.2, fun rd Hd qd o xd td hor gd => ?_⟩
      have xd' := xa'.trans xd
      obtain ⟨tt', o1', o2', rfl, ft, tq, tok⟩ := td.i2
      refine ⟨tt', _, rfl, ft.sq, rfl, _, _, rfl, _, _, rfl, rfl, ?_⟩
      obtain ⟨tb, b0, ov, rfl, fb, tb0, tov⟩ := tok.i2
      refine ⟨_, rfl, _, rfl, _, rfl, _, rfl, _, rfl, tb, _, 1, _, rfl, rfl, fb.sq, rfl, two_le, fun p1 o1 hp1 no1 => ⟨one_le1, fun L3 hL3 => ?_⟩⟩
      have s1 := same_new hp1 (.frz o1 (.tup [.str nm, ov]))
      have s2 := same_new hL3 (.lst [.ref p1])
      have xe := xd'.same (s1.trans s2)
      obtain ⟨ax, hax, tax⟩ := hAx xe
      have lax : ax.length = Γ.length := by rw [tax.len, List.length_map]
      have hGl := hG.1
      refine ⟨_, rfl, L3, a, _, ax, rfl, rfl, upd_same, hax, by rw [sizeLine_eq]; simp only [List.length_cons, List.length_nil]; omega, fun pS hpS => ?_⟩
      have s3 := same_new hpS (.lst ([.ref p1] ++ ax))
      have xf := xe.same s3
      have hSc : LT (upd (upd (upd Hd p1 (.frz o1 (.tup [.str nm, ov]))) L3 (.lst [.ref p1])) pS (.lst ([.ref p1] ++ ax))) pS (((nm, o) :: Γ).map cdat) := by
        refine ⟨_, upd_same, .cons (Tp.mono ?_ (s2.trans s3).fs) (tax.mono s3.fs)⟩
        exact .new hp1 no1 (.cons (.str _) (.cons tov .nil))
      refine ⟨_, rfl, _, _, rfl, rfl, _, rfl, ?_⟩
      refine ⟨_, pS, sd, fu - 1, .bag k', (nm, o) :: Γ, rfl, hla, hk, ⟨?_, ?_⟩, hTx xf, hSc, xf.2, fun rg Hg qg xg tg gg => ⟨four_le, fun p o hp no => ?_⟩⟩
      · rw [List.length_cons]
        omega
      · intro p hp
        rcases List.mem_cons.mp hp with rfl | hp
        · show o.rank ≤ 5
          omega
        · exact hG.2 p hp
      have td' := tq.mono ((((SX.ofSame xd'.2 (s1.trans (s2.trans s3))).trans xg)).fs xd'.2)
      refine q _ _ (.for_ nm qd qg) ((xf.trans xg).same (same_new hp _)) (.new hp no (.cons (.str _) (.cons (.str _) (.cons td' (.cons tg .nil))))) ?_
      rw [ef]
      exact .afor gd gg
theorem ask_pos (k : Kd) (f : Nat) : 0 < (Mode.ask k).lim f := by cases k <;> simp only [Mode.lim] <;> omega
structure GenOk (P : Program) (w : World) (K : PySem.W.Frag) (mg : Str → Option Value) (base : Heap) (n : Nat) (fS fC fO fT fA : Addr) (fdS fdC fdO fdT fdA : FuncData) : Prop where
  S : FnOk P w K mg base CX0 (n + 20) fS fdS ["kind", "scope", "fuel", "seed"] (spSml n)
  C : FnOk P w K mg base CX0 (n + 20) fC fdC ["scope", "fuel", "seed"] (spClm n)
  O : FnOk P w K mg base CX0 (n + 20) fO fdO ["scope", "fuel", "seed"] (spOvr n)
  T : FnOk P w K mg base CX0 (n + 20) fT fdT ["kind", "scope", "fuel", "seed"] (spTak n)
  A : FnOk P w K mg base CX0 (n + 20) fA fdA ["kind", "scope", "fuel", "seed"] (spAsk n)
theorem ok_gen {fS fC fO fT fA fK fE fH fV fD : Addr} {fdS fdC fdO fdT fdA fdK fdE fdH fdV fdD : FuncData}
    (FS : Fun K "_law_small" "_law_small" sSml fS fdS) (FC : Fun K "_law_claim" "_law_claim" sClm fC fdC) (FO : Fun K "_law_over" "_law_over" sOvr fO fdO) (FT : Fun K "_law_taken" "_law_taken" sTak fT fdT) (FA : Fun K "_law_asked" "_law_asked" sAsk fA fdA)
    (bS : Binds K fdS ["kind", "scope", "fuel", "seed"] []) (mS : mg "_law_small" = some (.ref fS))
    (bC : Binds K fdC ["scope", "fuel", "seed"] []) (mC : mg "_law_claim" = some (.ref fC))
    (bO : Binds K fdO ["scope", "fuel", "seed"] []) (mO : mg "_law_over" = some (.ref fO))
    (bT : Binds K fdT ["kind", "scope", "fuel", "seed"] []) (mT : mg "_law_taken" = some (.ref fT))
    (bA : Binds K fdA ["kind", "scope", "fuel", "seed"] []) (mA : mg "_law_asked" = some (.ref fA))
    (GK : FnOk P w K mg base CX0 1 fK fdK [] spKds) (bK : Binds K fdK [] []) (kK : PySem.W.keepIn K (.ref fK) = true) (mK : mg "_law_kinds" = some (.ref fK))
    (GE : FnOk P w K mg base CX0 1 fE fdE ["scope"] spSeen) (bE : Binds K fdE ["scope"] []) (kE : PySem.W.keepIn K (.ref fE) = true) (mE : mg "_law_seen" = some (.ref fE))
    (GH : FnOk P w K mg base CX0 2 fH fdH ["kind", "scope"] spHeld) (bH : Binds K fdH ["kind", "scope"] []) (kH : PySem.W.keepIn K (.ref fH) = true) (mH : mg "_law_held" = some (.ref fH))
    (GV : FnOk P w K mg base CX0 17 fV fdV ["kind", "seed", "deep"] (spVal 8)) (bV : Binds K fdV ["kind", "seed", "deep"] []) (kV : PySem.W.keepIn K (.ref fV) = true) (mV : mg "_law_value" = some (.ref fV))
    (GD : FnOk P w K mg base CX0 1 fD fdD ["seed", "most"] spDraw) (bD : Binds K fdD ["seed", "most"] []) (kD : PySem.W.keepIn K (.ref fD) = true) (mD : mg "_law_draw" = some (.ref fD))
    (ml : mg "len" = none) (mt : mg "tuple" = none) (mi : mg "int" = none) (ms : mg "sorted" = none) :
    ∀ n, GenOk P w K mg base n fS fC fO fT fA fdS fdC fdO fdT fdA
  | 0 => by
    refine ⟨⟨fun vs H Q E h => ?_, fun A outer s H args us vs Q E _ _ _ _ h => ?_⟩, ⟨fun vs H Q E h => ?_, fun A outer s H args us vs Q E _ _ _ _ h => ?_⟩, ⟨fun vs H Q E h => ?_, fun A outer s H args us vs Q E _ _ _ _ h => ?_⟩, ⟨fun vs H Q E h => ?_, fun A outer s H args us vs Q E _ _ _ _ h => ?_⟩, ⟨fun vs H Q E h => ?_, fun A outer s H args us vs Q E _ _ _ _ h => ?_⟩⟩
    · obtain ⟨_, _, _, _, _, _, _, h1, _⟩ := h
      simp only [Mode.lim] at h1
      omega
    · obtain ⟨_, _, _, _, _, _, _, h1, _⟩ := h
      simp only [Mode.lim] at h1
      omega
    · obtain ⟨_, _, _, _, _, h1, _⟩ := h
      simp only [Mode.lim] at h1
      omega
    · obtain ⟨_, _, _, _, _, h1, _⟩ := h
      simp only [Mode.lim] at h1
      omega
    · obtain ⟨_, _, _, _, _, h1, _⟩ := h
      omega
    · obtain ⟨_, _, _, _, _, h1, _⟩ := h
      omega
    · obtain ⟨_, _, _, _, _, _, _, h1, _⟩ := h
      omega
    · obtain ⟨_, _, _, _, _, _, _, h1, _⟩ := h
      omega
    · obtain ⟨_, _, _, fu, k, _, _, h1, _⟩ := h
      have := ask_pos k fu.toNat
      omega
    · obtain ⟨_, _, _, fu, k, _, _, h1, _⟩ := h
      have := ask_pos k fu.toNat
      omega
  | n + 1 => by
    have g := ok_gen FS FC FO FT FA bS mS bC mC bO mO bT mT bA mA GK bK kK mK GE bE kE mE GH bH kH mH GV bV kV mV GD bD kD mD ml mt mi ms n
    exact ⟨ok_sml1 FS g.S bS mS g.A bA FA.kp mA GH bH kH mH GV bV kV mV GD bD kD mD ml mt, ok_clm1 FC g.C bC mC g.S bS FS.kp mS GD bD kD mD mi,
      ok_ovr1 FO GK bK kK mK GE bE kE mE g.A bA FA.kp mA GD bD kD mD ml, ok_tak1 FT g.A bA FA.kp mA GD bD kD mD ml mt,
      ok_ask1 FA g.A bA mA g.S bS FS.kp mS g.C bC FC.kp mC g.O bO FO.kp mO g.T bT FT.kp mT GK bK kK mK GH bH kH mH GD bD kD mD ml ms⟩
end
end N97

/-! KaWe -/
set_option maxRecDepth 100000
set_option maxHeartbeats 8000000
namespace N97
open PySem PySem.Spec PyProof.Rows L2

abbrev sSto : Stmt := topS 19
abbrev sChg : Stmt := topS 27
abbrev sWth : Stmt := topS 28
abbrev sNms : Stmt := topS 31
abbrev nSto : List Str := ["seed", "kinds", "store", "name"]
abbrev nChg : List Str := ["seed", "names", "way", "kinds", "change", "name"]
abbrev nWth : List Str := ["store", "change", "found", "name", "counts"]
abbrev nNms : List Str := ["seed", "mark", "names", "name"]
theorem scSto : FnScope nSto ["seed"] (defScope sSto) := ⟨rfl, rfl, rfl, by decide +kernel, rfl, by decide +kernel, by decide +kernel⟩
theorem scChg : FnScope nChg ["seed", "names", "way"] (defScope sChg) := ⟨rfl, rfl, rfl, by decide +kernel, rfl, by decide +kernel, by decide +kernel⟩
theorem scWth : FnScope nWth ["store", "change"] (defScope sWth) := ⟨rfl, rfl, rfl, by decide +kernel, rfl, by decide +kernel, by decide +kernel⟩
theorem scNms : FnScope nNms ["seed", "mark"] (defScope sNms) := ⟨rfl, rfl, rfl, by decide +kernel, rfl, by decide +kernel, by decide +kernel⟩
/-- a store -/
def StoG (H : Hp) (d : Addr) (S : Sto) : Prop := ∃ kvs : List (Key × V), H d = some (.dK kvs) ∧ kvs.length ≤ 20 ∧ ∀ t k, kdOf t = some k → ∃ u, valV kvs (Sum.inr t) = some u ∧ Tp H u (S t).enc
def SOk (W b : Nat) (S : Sto) : Prop := ∀ t k, kdOf t = some k → BOk W 2 b k (S t)
theorem StoG.mono {H H' : Hp} {d : Addr} {S : Sto} (h : StoG H d S) (f : FS H H') (e : ∀ kvs, H d = some (.dK kvs) → H' d = some (.dK kvs)) : StoG H' d S := by
  obtain ⟨kvs, h1, h2, h3⟩ := h
  exact ⟨kvs, e _ h1, h2, fun t k hk => let ⟨u, a, b⟩ := h3 t k hk; ⟨u, a, b.mono f⟩⟩
theorem StoG.same {H H' : Hp} {d : Addr} {S : Sto} (h : StoG H d S) (s : Same H H') : StoG H' d S := h.mono s.fs fun _ e => s _ _ e
theorem Sd.ned {H : Hp} {sd p : Addr} {kvs : List (Key × V)} (s : Sd H sd) (h : H p = some (.dK kvs)) : p ≠ sd := by
  obtain ⟨n, f, c, m, e⟩ := s
  exact ne_of h e (by intro z; cases z)
theorem StoG.sx {H H' : Hp} {d sd : Addr} {S : Sto} (h : StoG H d S) (hS : Sd H sd) (x : SX sd H H') : StoG H' d S := h.mono (x.fs hS) fun _ e => x.1 _ _ (hS.ned e) e
/-- a change -/
abbrev Chg := Str → Option Val
def ChG (H : Hp) (d : Addr) (ns : List Str) (C : Chg) : Prop := ∃ ks : List (Str × V), H d = some (.dK (ks.map entS)) ∧ ks.map (·.1) = ns ∧ ∀ p ∈ ks, ∃ c, C p.1 = some c ∧ Tp H p.2 c.enc
def COk (ns : List Str) (C : Chg) : Prop := (∀ t ∈ ns, ∃ k c, kdOf t = some k ∧ C t = some c ∧ BOk 3 2 100 k c) ∧ ∀ t, t ∉ ns → C t = none
theorem ChG.mono {H H' : Hp} {d : Addr} {ns : List Str} {C : Chg} (h : ChG H d ns C) (f : FS H H') (e : ∀ kvs, H d = some (.dK kvs) → H' d = some (.dK kvs)) : ChG H' d ns C := by
  obtain ⟨ks, h1, h2, h3⟩ := h
  exact ⟨ks, e _ h1, h2, fun p hp => let ⟨c, a, b⟩ := h3 p hp; ⟨c, a, b.mono f⟩⟩
theorem ChG.same {H H' : Hp} {d : Addr} {ns : List Str} {C : Chg} (h : ChG H d ns C) (s : Same H H') : ChG H' d ns C := h.mono s.fs fun _ e => s _ _ e
theorem ChG.sx {H H' : Hp} {d sd : Addr} {ns : List Str} {C : Chg} (h : ChG H d ns C) (hS : Sd H sd) (x : SX sd H H') : ChG H' d ns C := h.mono (x.fs hS) fun _ e => x.1 _ _ (hS.ned e) e
/-- the store with a change -/
def withS (S : Sto) (C : Chg) : Sto := fun t => match C t with
  | some c => mkBag (scale 1 (S t).rows ++ scale 1 c.rows)
  | none => S t
theorem scale_one (l : List (Val × Int)) : scale 1 l = l := by
  unfold scale
  refine (List.map_congr_left fun p _ => ?_).trans (List.map_id l)
  show (p.1, 1 * p.2) = p
  rw [Int.one_mul]
theorem SOk.withS {W b : Nat} {S : Sto} {C : Chg} {ns : List Str} (h : SOk W b S) (hC : COk ns C) (hW : W + 3 ≤ 16) (hb : 100 ≤ b) : SOk (W + 3) (b + 4) (withS S C) := by
  intro t k hk
  unfold N97.withS
  cases e : C t with
  | none => exact (h t k hk).mono (by omega) (Nat.le_refl _) (by omega)
  | some c =>
    have ht : t ∈ ns := by
      refine Decidable.byContradiction fun hn => ?_
      rw [hC.2 t hn] at e
      cases e
    obtain ⟨k', c', e1, e2, e3⟩ := hC.1 t ht
    rw [hk] at e1
    cases e1
    rw [e] at e2
    cases e2
    obtain ⟨l1, r1, l2, l3⟩ := h t k hk
    obtain ⟨m1, r2, m2, m3⟩ := e3
    show BOk _ _ _ _ (mkBag (scale 1 (S t).rows ++ scale 1 c.rows))
    rw [r1, r2, show (Val.bag (.ofR l1)).rows = l1 from Val.spR_ofR l1, show (Val.bag (.ofR m1)).rows = m1 from Val.spR_ofR m1, scale_one, scale_one]
    refine mkBag_ok (n := W + 3) (e := 4) (by rw [List.length_append]; omega) (Nat.le_refl _) (by omega) fun p hp => ?_
    rcases List.mem_append.mp hp with hp | hp
    · exact ⟨(l3 p hp).1.mono (Nat.le_refl _) (by omega), (l3 p hp).2⟩
    · exact ⟨(m3 p hp).1.mono (Nat.le_refl _) (by omega), pow_le hb (m3 p hp).2⟩
theorem one_mulok {b : Nat} {i : Int} (h : i.natAbs < 2 ^ b) (h0 : 0 < b) (hb : b ≤ 900000) : CMulW 1 i := wide_mul (a := 1) (by decide) h (by decide) h0 (by omega)
def spSto : Sp := fun vs H Q _ => ∃ sd : Addr, vs = [.ref sd] ∧ Sd H sd ∧ ∀ d H' S, SX sd H H' → H d = none → StoG H' d S → SOk 3 100 S → Q (.ref d) H'
def spChg : Sp := fun vs H Q _ => ∃ (sd pn : Addr) (ns : List Str), vs = [.ref sd, .ref pn, .int 1] ∧ Sd H sd ∧ H pn = some (.lst (ns.map V.str)) ∧ ns.Nodup ∧ (∀ t ∈ ns, ∃ k, kdOf t = some k) ∧ ns.length ≤ 5 ∧ pn ≠ sd ∧
  ∀ d H' C, SX sd H H' → H d = none → ChG H' d ns C → COk ns C → Q (.ref d) H'
def spWth : Sp := fun vs H Q _ => ∃ (ds dc : Addr) (S : Sto) (C : Chg) (ns : List Str) (W b : Nat), vs = [.ref ds, .ref dc] ∧ ds ≠ dc ∧ StoG H ds S ∧ ChG H dc ns C ∧ SOk W b S ∧ COk ns C ∧ ns.Nodup ∧ ns.length ≤ 5 ∧ W + 3 ≤ 16 ∧ 100 ≤ b ∧ b ≤ 1000 ∧
  ∀ d H', Same H H' → H d = none → StoG H' d (withS S C) → Q (.ref d) H'
section
variable {P : Program} {w : World} {K : PySem.W.Frag} {mg : Str → Option Value} {base : Heap}
theorem kd_T5 : ∀ {t : Str}, t ∈ T5 → ∃ k, kdOf t = some k := fun {t} h => by
  simp only [T5, List.mem_cons, List.not_mem_nil, or_false] at h
  rcases h with rfl | rfl | rfl | rfl | rfl <;> exact ⟨_, rfl⟩
theorem kd_inT5 {t : Str} {k : Kd} (h : kdOf t = some k) : t ∈ T5 := by
  unfold kdOf at h
  repeat' split at h
  all_goals first | (next e => subst e; decide) | cases h
theorem ok_sto {f fK fV : Addr} {fd fdK fdV : FuncData} (F : Fun K "_law_store" "_law_store" sSto f fd)
    (GK : FnOk P w K mg base CX0 1 fK fdK [] spKds) (bK : Binds K fdK [] []) (kK : PySem.W.keepIn K (.ref fK) = true) (mK : mg "_law_kinds" = some (.ref fK))
    (GV : FnOk P w K mg base CX0 17 fV fdV ["kind", "seed", "deep"] (spVal 8)) (bV : Binds K fdV ["kind", "seed", "deep"] []) (kV : PySem.W.keepIn K (.ref fV) = true) (mV : mg "_law_value" = some (.ref fV))
    (ms : mg "sorted" = none) : FnOk P w K mg base CX0 18 f fd ["seed"] spSto := by
  refine F.ok scSto (fun vs H Q E h => ?_) (fun cdv A outer s H vs Q E hr h => ?_)
  · obtain ⟨sd, rfl, _⟩ := h
    rfl
  obtain ⟨sd, rfl, hS, q⟩ := h
  have hr1 := hr.mono (show 1 ≤ 17 by decide)
  refine ⟨_, pss_cons (ps_set (i := 1) scSto.nd rfl (.inl rfl) (pe_call0 GK hr1 rfl mK kK bK .nil pass0))
    (pss_cons (ps_set (i := 2) scSto.nd rfl (.inl rfl) pe_dnewK)
    (pss_cons (ps_for PassesOwn.never rfl (pi_list (pe_callB (call_sortedD rfl) (by rfl) ms (by decide +kernel) (pa_cons (pv 1) pa_nil))) (pg_name (i := 3) scSto.nd rfl (.inl rfl))
      (pss_one (ps_dput (hu_of hr) (pv 2) (pv 3) (pe_call GV hr rfl mV kV bV .nil pass0 (pa_cons (pe_tupF (pa_cons pe_str (pa_cons (pe_dget (hu_of hr) (pv 1) (pv 3) (fun _ _ => rfl)) pa_nil))) (pa_cons (pv 0) (pa_cons pe_int pa_nil)))) rfl)))
    (pss_one (ps_ret (pv 2))))), ?_⟩
  refine ⟨rfl, fun pk H1 s1 kd1 => ?_⟩
  have x1 := SX.ofSame hS s1
  intro d hd
  have hds : d ≠ sd := (x1.2.ne hd).symm
  have s2 := same_new hd (.dK [])
  have x2 := x1.same s2
  have kd2 := kd1.same s2
  have hdH : H d = none := by
    cases e : H d with
    | none => rfl
    | some o => have := s1 _ _ e; rw [hd] at this; cases this
  obtain ⟨vl, vt, vd, vv, hkd, tl, tt, td, tv⟩ := kd2
  have hpd : pk ≠ d := by
    obtain ⟨_, _, _, _, h1, _⟩ := kd1
    exact ne_of_none h1 hd
  refine ⟨_, rfl, pk, _, T5, rfl, .inl hkd, rfl, by decide, fun ys pl hperm _ hpl => ?_⟩
  have s3 := same_new hpl (.lst (ys.map V.str))
  have x3 := x2.same s3
  have hd3 : (upd (upd H1 d (.dK [])) pl (.lst (ys.map V.str))) d = some (.dK []) := s3 _ _ upd_same
  have hpls : pl ≠ sd := (x2.2.ne hpl).symm
  have hpld : pl ≠ d := (ne_of_none (show (upd H1 d (.dK [])) d = some (.dK []) from upd_same) hpl).symm
  have kd3 : KDs (upd (upd H1 d (.dK [])) pl (.lst (ys.map V.str))) pk := KDs.same ⟨vl, vt, vd, vv, hkd, tl, tt, td, tv⟩ s3
  have hl3 : (upd (upd H1 d (.dK [])) pl (.lst (ys.map V.str))) pl = some (.lst (ys.map V.str)) := upd_same
  generalize (upd (upd H1 d (.dK [])) pl (.lst (ys.map V.str))) = H3 at x3 hd3 kd3 hl3 ⊢
  have hys : ys.length = 5 := hperm.length_eq
  refine ⟨pl, rfl, ⟨_, SqL.of hl3⟩, ?_⟩
  refine for_list (xs := ys.map V.str) (fun i σ H4 => ∃ y3, σ = [some (.ref sd), some (.ref pk), some (.ref d), y3] ∧ (∀ b o, b ≠ sd → b ≠ d → H3 b = some o → H4 b = some o) ∧ Sd H4 sd ∧
      ∃ (kvs : List (Key × V)) (S : Sto), H4 d = some (.dK kvs) ∧ kvs.length ≤ i ∧ ∀ t ∈ ys.take i, ∀ k, kdOf t = some k → ∃ u, valV kvs (Sum.inr t) = some u ∧ Tp H4 u (S t).enc ∧ BOk 3 2 100 k (S t))
    ⟨none, rfl, fun _ _ _ _ e => e, x3.2, [], fun _ => .nil, hd3, Nat.le_refl _, fun t h => by rw [List.take_zero] at h; cases h⟩ (fun i σ H4 _ p => ?_) (fun i x σ H4 hx p => ?_) (fun σ H4 p => ?_)
  · obtain ⟨_, _, r4, _⟩ := p
    exact SqL.of (r4 _ _ hpls hpld hl3)
  · obtain ⟨y3, rfl, r4, hS4, kvs, S, hd4, hkl, hin⟩ := p
    rw [List.getElem?_map] at hx
    obtain ⟨nm, ey, rfl⟩ := Option.map_eq_some_iff.mp hx
    have hi : i < 5 := by
      have := (List.getElem?_eq_some_iff.mp ey).1
      omega
    obtain ⟨k, hk⟩ := kd_T5 (hperm.mem_iff.mp (List.mem_of_getElem? ey))
    have f34 : FS H3 H4 := fun b o u e => by
      refine r4 b _ ?_ (ne_of e hd3 (by intro z; cases z)) e
      obtain ⟨n1, n2, n3, n4, h⟩ := x3.2
      exact ne_of e h (by intro z; cases z)
    have kd4 : KDs H4 pk := kd3.mono f34 fun kk e => r4 _ _ (x3.2.ned e) hpd e
    obtain ⟨u, hg, hu⟩ := kd4.get hk
    refine ⟨_, rfl, _, rfl, pk, u, rfl, hg, two_le, fun p5 o5 hp5 no5 => ⟨_, rfl, ?_⟩⟩
    have s5 := same_new hp5 (.frz o5 (.tup [.str "bag", u]))
    refine ⟨_, sd, 0, .bag k, rfl, ?_, ?_, .inr ⟨rfl, k, rfl⟩, .new hp5 no5 (.cons (.str _) (.cons hu .nil)), hS4.same s5, fun r H6 v x6 t6 vr => ?_⟩
    · have := kdOf_rank hk
      show k.rank + 1 ≤ 8
      omega
    · have := kdOf_rank hk
      show k.rank + 1 ≤ 8
      omega
    obtain ⟨k', ek, hv⟩ := vr.2 rfl
    cases ek
    have hd6 := x6.1 _ _ hds (s5 _ _ hd4)
    refine ⟨_, rfl, _, rfl, d, _, rfl, DPut.k (k := Sum.inr nm) hd6 (by rw [sizeLine_eq]; omega), ?_⟩
    have f46 : FS H4 H6 := s5.fs.trans (x6.fs (hS4.same s5))
    have f67 : FS H6 (upd H6 d (.dK (putK kvs (Sum.inr nm) r))) := fs_dK hd6
    refine ⟨_, rfl, fun b o h1 h2 e => ?_, ?_, putK kvs (Sum.inr nm) r, (fun t => if t = nm then v else S t), upd_same, ?_, fun t ht k2 hk2 => ?_⟩
    · rw [upd_ne h2]
      exact x6.1 _ _ h1 (s5 _ _ (r4 b o h1 h2 e))
    · obtain ⟨n1, n2, n3, n4, e⟩ := x6.2
      exact ⟨n1, n2, n3, n4, by rw [upd_ne hds.symm]; exact e⟩
    · have := putK_len kvs (Sum.inr nm) r
      omega
    · rw [valV_putK]
      by_cases e : t = nm
      · subst e
        rw [if_pos rfl]
        rw [hk] at hk2
        cases hk2
        refine ⟨r, rfl, ?_, ?_⟩
        · show Tp _ r (if t = t then v else S t).enc
          rw [if_pos rfl]
          exact t6.mono f67
        · show BOk 3 2 100 k (if t = t then v else S t)
          rw [if_pos rfl]
          exact hv
      · rw [if_neg e]
        have ht' : t ∈ ys.take i := by
          rw [List.take_add_one, ey] at ht
          rcases List.mem_append.mp ht with h | h
          · exact h
          · exact absurd (List.mem_singleton.mp h) e
        obtain ⟨u', h1, h2, h3⟩ := hin t ht' k2 hk2
        refine ⟨u', h1, ?_, ?_⟩
        · show Tp _ u' (if t = nm then v else S t).enc
          rw [if_neg e]
          exact (h2.mono f46).mono f67
        · show BOk 3 2 100 k2 (if t = nm then v else S t)
          rw [if_neg e]
          exact h3
  · obtain ⟨y3, rfl, r4, hS4, kvs, S, hd4, hkl, hin⟩ := p
    rw [List.length_map] at hkl hin
    rw [List.take_length] at hin
    have hmem : ∀ t k, kdOf t = some k → t ∈ ys := fun t k hk => hperm.mem_iff.mpr (kd_inT5 hk)
    refine ⟨_, rfl, q d H4 S ⟨fun b o h e => r4 b o h (ne_of_none e hdH) (x3.1 _ _ h e), hS4⟩ hdH ⟨kvs, hd4, by omega, fun t k hk => ?_⟩ fun t k hk => ?_⟩
    · obtain ⟨u, h1, h2, _⟩ := hin t (hmem t k hk) k hk
      exact ⟨u, h1, h2⟩
    · obtain ⟨u, h1, _, h2⟩ := hin t (hmem t k hk) k hk
      exact h2
theorem ok_chg {f fK fV fD : Addr} {fd fdK fdV fdD : FuncData} (F : Fun K "_law_change" "_law_change" sChg f fd)
    (GK : FnOk P w K mg base CX0 1 fK fdK [] spKds) (bK : Binds K fdK [] []) (kK : PySem.W.keepIn K (.ref fK) = true) (mK : mg "_law_kinds" = some (.ref fK))
    (GV : FnOk P w K mg base CX0 17 fV fdV ["kind", "seed", "deep"] (spVal 8)) (bV : Binds K fdV ["kind", "seed", "deep"] []) (kV : PySem.W.keepIn K (.ref fV) = true) (mV : mg "_law_value" = some (.ref fV))
    (GD : FnOk P w K mg base CX0 1 fD fdD ["seed", "most"] spDraw) (bD : Binds K fdD ["seed", "most"] []) (kD : PySem.W.keepIn K (.ref fD) = true) (mD : mg "_law_draw" = some (.ref fD)) :
    FnOk P w K mg base CX0 18 f fd ["seed", "names", "way"] spChg := by
  refine F.ok scChg (fun vs H Q E h => ?_) (fun cdv A outer s H vs Q E hr h => ?_)
  · obtain ⟨sd, pn, ns, rfl, _⟩ := h
    rfl
  obtain ⟨sd, pn, ns, rfl, hS, hN, hnd, hT5, hn5, hps, q⟩ := h
  have hr1 := hr.mono (show 1 ≤ 17 by decide)
  refine ⟨_, pss_cons (ps_set (i := 3) scChg.nd rfl (.inl rfl) (pe_call0 GK hr1 rfl mK kK bK .nil pass0))
    (pss_cons (ps_set (i := 4) scChg.nd rfl (.inl rfl) pe_dnewK)
    (pss_cons (ps_for PassesOwn.never rfl (pi_list (pv 1)) (pg_name (i := 5) scChg.nd rfl (.inl rfl))
      (pss_one (ps_if (PW.pt (pw_or (pt_cmpR op_eq (pv 2) pe_int (nomark _)) (pw_or1 (pt_cmpR op_gt (pe_call GD hr1 rfl mD kD bD .nil pass0 (pa_cons (pv 0) (pa_cons pe_int pa_nil))) pe_int (nomark _)))))
        (pss_one (ps_dput (hu_of hr) (pv 4) (pv 5) (pe_call GV hr rfl mV kV bV .nil pass0 (pa_cons (pe_tupF (pa_cons pe_str (pa_cons (pe_dget (hu_of hr) (pv 3) (pv 5) (fun _ _ => rfl)) pa_nil))) (pa_cons (pv 0) (pa_cons pe_int pa_nil)))) rfl))
        (pss_one (ps_dput (hu_of hr) (pv 4) (pv 5) (pe_tupF (pa_cons pe_str (pa_cons (pe_tupF pa_nil) pa_nil))) rfl)))))
    (pss_one (ps_ret (pv 4))))), ?_⟩
  refine ⟨rfl, fun pk H1 s1 kd1 => ?_⟩
  have x1 := SX.ofSame hS s1
  intro d hd
  have hds : d ≠ sd := (x1.2.ne hd).symm
  have s2 := same_new hd (.dK [])
  have x2 := x1.same s2
  have kd2 := kd1.same s2
  have hdH : H d = none := by
    cases e : H d with
    | none => rfl
    | some o => have := s1 _ _ e; rw [hd] at this; cases this
  have hpd : pk ≠ d := by
    obtain ⟨_, _, _, _, h1, _⟩ := kd1
    exact ne_of_none h1 hd
  have hd2 : (upd H1 d (.dK [])) d = some (.dK []) := upd_same
  have hpnd : pn ≠ d := ne_of_none hN hdH
  have hN2 := s2 _ _ (s1 _ _ hN)
  generalize (upd H1 d (.dK [])) = H2 at x2 kd2 hd2 hN2 ⊢
  refine ⟨_, rfl, pn, rfl, ⟨_, SqL.of hN2⟩, ?_⟩
  refine for_list (xs := ns.map V.str) (fun i σ H4 => ∃ y5, σ = [some (.ref sd), some (.ref pn), some (.int 1), some (.ref pk), some (.ref d), y5] ∧ (∀ b o, b ≠ sd → b ≠ d → H2 b = some o → H4 b = some o) ∧ Sd H4 sd ∧
      ∃ (ks : List (Str × V)) (C : Chg), H4 d = some (.dK (ks.map entS)) ∧ ks.map (·.1) = ns.take i ∧ (∀ p ∈ ks, ∃ c, C p.1 = some c ∧ Tp H4 p.2 c.enc) ∧ COk (ns.take i) C)
    ⟨none, rfl, fun _ _ _ _ e => e, x2.2, [], fun _ => none, hd2, by rw [List.take_zero]; rfl, (fun p h => nomatch h), by rw [List.take_zero]; exact ⟨(fun t h => nomatch h), fun _ _ => rfl⟩⟩ (fun i σ H4 _ p => ?_) (fun i x σ H4 hx p => ?_) (fun σ H4 p => ?_)
  · obtain ⟨_, _, r4, _⟩ := p
    exact SqL.of (r4 _ _ hps hpnd hN2)
  · obtain ⟨y5, rfl, r4, hS4, ks, C, hd4, hkn, hkc, hC⟩ := p
    rw [List.getElem?_map] at hx
    obtain ⟨nm, ey, rfl⟩ := Option.map_eq_some_iff.mp hx
    have hi : i < ns.length := (List.getElem?_eq_some_iff.mp ey).1
    have etake : ns.take (i + 1) = ns.take i ++ [nm] := by rw [List.take_add_one, ey]; rfl
    have hnew : nm ∉ ns.take i := by
      have h1 : (ns.take (i + 1)).Nodup := hnd.sublist (List.take_sublist _ _)
      rw [etake, List.nodup_append] at h1
      exact fun h => h1.2.2 nm h nm (List.mem_singleton_self _) rfl
    obtain ⟨k, hk⟩ := hT5 nm (List.mem_of_getElem? ey)
    have hkr := kdOf_rank hk
    have f24 : FS H2 H4 := fun b o u e => by
      refine r4 b _ ?_ (ne_of e hd2 (by intro z; cases z)) e
      obtain ⟨n1, n2, n3, n4, h⟩ := x2.2
      exact ne_of e h (by intro z; cases z)
    have kd4 : KDs H4 pk := kd2.mono f24 fun kk e => r4 _ _ (x2.2.ned e) hpd e
    -- what is written
    have put : ∀ (H6 : Hp) (r : V) (v : Val), SX sd H4 H6 → Tp H6 r v.enc → BOk 3 2 100 k v → DPut H6 d (.str nm) r (upd H6 d (.dK (putK (ks.map entS) (Sum.inr nm) r))) ∧
        ∃ y5, ([some (.ref sd), some (.ref pn), some (.int 1), some (.ref pk), some (.ref d), some (.str nm)] : L2.St) = [some (.ref sd), some (.ref pn), some (.int 1), some (.ref pk), some (.ref d), y5] ∧ (∀ b o, b ≠ sd → b ≠ d → H2 b = some o → (upd H6 d (.dK (putK (ks.map entS) (Sum.inr nm) r))) b = some o) ∧ Sd (upd H6 d (.dK (putK (ks.map entS) (Sum.inr nm) r))) sd ∧
          ∃ (ks2 : List (Str × V)) (C : Chg), (upd H6 d (.dK (putK (ks.map entS) (Sum.inr nm) r))) d = some (.dK (ks2.map entS)) ∧ ks2.map (·.1) = ns.take (i + 1) ∧ (∀ p ∈ ks2, ∃ c, C p.1 = some c ∧ Tp (upd H6 d (.dK (putK (ks.map entS) (Sum.inr nm) r))) p.2 c.enc) ∧ COk (ns.take (i + 1)) C := by
      intro H6 r v x6 t6 hv
      have hd6 := x6.1 _ _ hds hd4
      have hnk : nm ∉ ks.map (·.1) := by rw [hkn]; exact hnew
      have f67 : FS H6 (upd H6 d (.dK (putK (ks.map entS) (Sum.inr nm) r))) := fs_dK hd6
      have hkl : ks.length ≤ 5 := by
        have : ks.length = (ks.map (·.1)).length := by rw [List.length_map]
        rw [this, hkn, List.length_take]
        omega
      refine ⟨DPut.k (k := Sum.inr nm) hd6 (by rw [List.length_map, sizeLine_eq]; omega), _, rfl, fun b o h1 h2 e => ?_, ?_, ks ++ [(nm, r)], (fun t => if t = nm then some v else C t), ?_, ?_, fun p hp => ?_, fun t ht => ?_, fun t ht => ?_⟩
      · rw [upd_ne h2]
        exact x6.1 _ _ h1 (r4 b o h1 h2 e)
      · obtain ⟨n1, n2, n3, n4, e⟩ := x6.2
        exact ⟨n1, n2, n3, n4, by rw [upd_ne hds.symm]; exact e⟩
      · rw [upd_same, putK_new hnk]
      · rw [List.map_append, hkn, etake]
        rfl
      · rcases List.mem_append.mp hp with hp | hp
        · obtain ⟨c, h1, h2⟩ := hkc p hp
          have hne : p.1 ≠ nm := fun e => hnk (by rw [← e]; exact List.mem_map.mpr ⟨p, hp, rfl⟩)
          refine ⟨c, ?_, (h2.mono (x6.fs hS4)).mono f67⟩
          show (if p.1 = nm then some v else C p.1) = _
          rw [if_neg hne]
          exact h1
        · obtain rfl := List.mem_singleton.mp hp
          refine ⟨v, ?_, t6.mono f67⟩
          show (if nm = nm then some v else C nm) = _
          rw [if_pos rfl]
      · rw [etake] at ht
        by_cases e : t = nm
        · subst e
          refine ⟨k, v, hk, ?_, hv⟩
          show (if t = t then some v else C t) = _
          rw [if_pos rfl]
        · have ht' : t ∈ ns.take i := by
            rcases List.mem_append.mp ht with h | h
            · exact h
            · exact absurd (List.mem_singleton.mp h) e
          obtain ⟨k2, c2, h1, h2, h3⟩ := hC.1 t ht'
          refine ⟨k2, c2, h1, ?_, h3⟩
          show (if t = nm then some v else C t) = _
          rw [if_neg e]
          exact h2
      · rw [etake, List.mem_append, not_or] at ht
        have e : t ≠ nm := fun e => ht.2 (by rw [e]; exact List.mem_singleton_self _)
        show (if t = nm then some v else C t) = _
        rw [if_neg e]
        exact hC.2 t ht.1
    refine ⟨_, rfl, rfl, _, rfl, iteF ?_⟩
    refine ⟨_, rfl, sd, 3, rfl, hS4, by decide, by decide, fun r5 H5 h50 h51 x5 => ⟨_, _, rfl, rfl, _, rfl, ?_⟩⟩
    refine ite2 (fun c => ?_) (fun c => ?_)
    · have kd5 := kd4.sx hS4 x5
      obtain ⟨u, hg, hu⟩ := kd5.get hk
      refine ⟨_, rfl, _, rfl, pk, u, rfl, hg, two_le, fun p5 o5 hp5 no5 => ⟨_, rfl, ?_⟩⟩
      have s5 := same_new hp5 (.frz o5 (.tup [.str "bag", u]))
      have x5' := x5.same s5
      refine ⟨_, sd, 0, .bag k, rfl, (show k.rank + 1 ≤ 8 by omega), (show k.rank + 1 ≤ 8 by omega), .inr ⟨rfl, k, rfl⟩, .new hp5 no5 (.cons (.str _) (.cons hu .nil)), x5'.2, fun r H6 v x6 t6 vr => ?_⟩
      obtain ⟨k', ek, hv⟩ := vr.2 rfl
      cases ek
      obtain ⟨p1, p2⟩ := put H6 r v (x5'.trans x6) t6 hv
      exact ⟨_, rfl, _, rfl, d, _, rfl, p1, p2⟩
    · refine ⟨Nat.zero_le _, fun p6 o6 hp6 no6 => ⟨two_le, fun p7 o7 hp7 no7 => ?_⟩⟩
      have s6 := same_new hp6 (.frz o6 (.tup []))
      have s7 := same_new hp7 (.frz o7 (.tup [.str "bag", .ref p6]))
      obtain ⟨p1, p2⟩ := put _ (.ref p7) (.bag (.ofR [])) (x5.same (s6.trans s7)) (by
        rw [enc_bag]
        exact .new hp7 no7 (.cons (.str _) (.cons (.new hp6 no6 .nil) .nil))) ⟨[], rfl, Nat.zero_le _, fun p h => nomatch h⟩
      exact ⟨_, rfl, _, rfl, d, _, rfl, p1, p2⟩
  · obtain ⟨y5, rfl, r4, hS4, ks, C, hd4, hkn, hkc, hC⟩ := p
    rw [List.length_map, List.take_length] at hkn hC
    exact ⟨_, rfl, q d H4 C ⟨fun b o h e => r4 b o h (ne_of_none e hdH) (x2.1 _ _ h e), hS4⟩ hdH ⟨ks, hd4, hkn, hkc⟩ hC⟩
end
end N97

/-! KaWf -/
set_option maxRecDepth 100000
set_option maxHeartbeats 8000000
namespace N97
open PySem PySem.Spec PyProof.Rows L2

/-- the frozen tuples stay -/
def FT (H H' : Hp) : Prop := ∀ b o xs, H b = some (.frz o (.tup xs)) → H' b = some (.frz o (.tup xs))
mutual
theorem Tp.monoT' {H H' : Hp} (f : FT H H') : ∀ (d : PyData) (v : V), Tp H v d → Tp H' v d
  | _, _, .int i => .int i
  | _, _, .str x => .str x
  | .tuple ds, _, .tup h t => .tup (let ⟨o, e, n⟩ := h; ⟨o, f _ _ _ e, n⟩) (TpAll.monoT' f ds _ t)
theorem TpAll.monoT' {H H' : Hp} (f : FT H H') : ∀ (ds : List PyData) (vs : List V), TpAll H vs ds → TpAll H' vs ds
  | _, _, .nil => .nil
  | d :: ds, _, .cons h t => .cons (Tp.monoT' f d _ h) (TpAll.monoT' f ds _ t)
end
theorem Tp.monoT {H H' : Hp} {d : PyData} {v : V} (h : Tp H v d) (f : FT H H') : Tp H' v d := Tp.monoT' f d v h
theorem putK_same {kvs : List (Key × V)} {k : Key} {u v : V} (h : valV kvs k = some u) : (putK kvs k v).length = kvs.length := by
  unfold putK
  rw [if_pos (by rw [valV_any, h]; rfl), List.length_map]
theorem BOk.rows {W m b : Nat} {k : Kd} {v : Val} (h : BOk W m b k v) : ∃ l, v = .bag (.ofR l) ∧ v.rows = l ∧ l.length ≤ W ∧ ∀ p ∈ l, VOk m b k p.1 ∧ p.2.natAbs < 2 ^ b := by
  obtain ⟨l, e, h1, h2⟩ := h
  exact ⟨l, e, by rw [e]; exact Val.spR_ofR l, h1, h2⟩
theorem valV_ks {ks : List (Str × V)} {p : Str × V} (hn : (ks.map (·.1)).Nodup) (h : p ∈ ks) : valV (ks.map entS) (Sum.inr p.1) = some p.2 := by
  induction ks with
  | nil => cases h
  | cons q r ih =>
    rw [List.map_cons, List.nodup_cons] at hn
    rcases List.mem_cons.mp h with rfl | h
    · rw [List.map_cons, valV_pos (show (entS p).1 = Sum.inr p.1 from rfl)]
      rfl
    · have hne : q.1 ≠ p.1 := fun e => hn.1 (by rw [e]; exact List.mem_map.mpr ⟨p, h, rfl⟩)
      rw [List.map_cons, valV_neg (show ¬ (entS q).1 = Sum.inr p.1 from fun e => hne (Sum.inr.inj e))]
      exact ih hn.2 h
def spNms : Sp := fun vs H Q _ => ∃ sd : Addr, vs = [.ref sd, .str "d"] ∧ Sd H sd ∧ ∀ d H' (ks : List (Str × V)), SX sd H H' → H d = none → H' d = some (.dK (ks.map entS)) → (ks.map (·.1)).Sublist T5 → Q (.ref d) H'
section
variable {P : Program} {w : World} {K : PySem.W.Frag} {mg : Str → Option Value} {base : Heap}
theorem ok_wth {f fB fD : Addr} {fd fdB fdD : FuncData} (F : Fun K "_law_with" "_law_with" sWth f fd)
    (GB : FnOk P w K mg base CX0 9 fB fdB ["counts"] spBag) (bB : Binds K fdB ["counts"] []) (kB : PySem.W.keepIn K (.ref fB) = true) (mB : mg "_law_bag" = some (.ref fB))
    (GD : FnOk P w K mg base CX0 1 fD fdD ["counts", "bag", "many"] spAdd) (bD : Binds K fdD ["counts", "bag", "many"] []) (kD : PySem.W.keepIn K (.ref fD) = true) (mD : mg "_law_add" = some (.ref fD))
    (md : mg "dict" = none) : FnOk P w K mg base CX0 10 f fd ["store", "change"] spWth := by
  refine F.ok scWth (fun vs H Q E h => ?_) (fun cdv A outer s H vs Q E hr h => ?_)
  · obtain ⟨ds, dc, S, C, ns, W, b, rfl, _⟩ := h
    rfl
  obtain ⟨ds, dc, S, C, ns, W, bb, rfl, hne, ⟨kvs, hV, hVz, hVx⟩, ⟨ks, hcd, hkn, hkc⟩, hSO, hCO, hnd, hn5, hW, hb1, hb2, q⟩ := h
  have hr1 := hr.mono (show 1 ≤ 9 by decide)
  refine ⟨_, pss_cons (ps_set (i := 2) scWth.nd rfl (.inl rfl) (pe_callTy call_dictD (by rfl) md (by decide +kernel) (pa_cons (pv 0) pa_nil)))
    (pss_cons (ps_lock (ps_for PassesOwn.never rfl (pi_keys (pv 1)) (pg_name (i := 3) scWth.nd rfl (.inl rfl))
      (pss_cons (ps_set (i := 4) scWth.nd rfl (.inl rfl) (pe_lst pa_nil))
      (pss_cons (ps_expr (pe_call GD hr1 rfl mD kD bD .nil pass0 (pa_cons (pv 4) (pa_cons (pe_dget (hu_of hr) (pv 0) (pv 3) (fun _ _ => rfl)) (pa_cons pe_int pa_nil)))))
      (pss_cons (ps_expr (pe_call GD hr1 rfl mD kD bD .nil pass0 (pa_cons (pv 4) (pa_cons (pe_dget (hu_of hr) (pv 1) (pv 3) (fun _ _ => rfl)) (pa_cons pe_int pa_nil)))))
      (pss_one (ps_dput (hu_of hr) (pv 2) (pv 3) (pe_call GB hr rfl mB kB bB .nil pass0 (pa_cons (pv 4) pa_nil)) rfl)))))))
    (pss_one (ps_ret (pv 2)))), ?_⟩
  refine ⟨_, rfl, ds, kvs, rfl, .inl hV, fun di hdi => ?_⟩
  have s0 : Same H (upd H di (.dK kvs)) := same_new hdi _
  have hdin : H di = none := hdi
  have hdc1 := s0 _ _ hcd
  refine ⟨dc, .dK (ks.map entS), hdc1, trivial, fun od => ?_⟩
  have hdcdi : dc ≠ di := ne_of_none hcd hdi
  have hdsdi : ds ≠ di := ne_of_none hV hdi
  have hL0 : ∀ b o, b ≠ dc → (upd H di (.dK kvs)) b = some o → (upd (upd H di (.dK kvs)) dc (.frz od (.dK (ks.map entS)))) b = some o := fun b o h e => by rw [upd_ne h]; exact e
  have fL : FS H (upd (upd H di (.dK kvs)) dc (.frz od (.dK (ks.map entS)))) := fun b o u e => hL0 b _ (ne_of e hcd (by intro z; cases z)) (s0 _ _ e)
  have hdi0 : (upd (upd H di (.dK kvs)) dc (.frz od (.dK (ks.map entS)))) di = some (.dK kvs) := hL0 _ _ hdcdi.symm upd_same
  have hds0 : (upd (upd H di (.dK kvs)) dc (.frz od (.dK (ks.map entS)))) ds = some (.dK kvs) := hL0 _ _ hne (s0 _ _ hV)
  have hdc0 : (upd (upd H di (.dK kvs)) dc (.frz od (.dK (ks.map entS)))) dc = some (.frz od (.dK (ks.map entS))) := upd_same
  have hall : ∀ b o, b ≠ dc → H b = some o → (upd (upd H di (.dK kvs)) dc (.frz od (.dK (ks.map entS)))) b = some o := fun b o h e => hL0 b o h (s0 _ _ e)
  generalize (upd (upd H di (.dK kvs)) dc (.frz od (.dK (ks.map entS)))) = HL at hL0 fL hdi0 hds0 hdc0 hall ⊢
  have hkl : (ks.map entS).length = ns.length := by rw [← hkn, List.length_map, List.length_map]
  refine ⟨_, rfl, dc, od, rfl, .inl ⟨_, hdc0, ?_⟩⟩
  refine for_it walk_keys (fun i σ H4 => ∃ y3 y4, σ = [some (.ref ds), some (.ref dc), some (.ref di), y3, y4] ∧ (∀ b o, b ≠ di → HL b = some o → H4 b = some o) ∧
      ∃ kv4 : List (Key × V), H4 di = some (.dK kv4) ∧ kv4.length ≤ 20 ∧ ∀ t k, kdOf t = some k → ∃ u, valV kv4 (Sum.inr t) = some u ∧ Tp H4 u (if t ∈ ns.take i then withS S C t else S t).enc)
    ⟨none, none, rfl, fun _ _ _ e => e, kvs, hdi0, hVz, fun t k hk => ?_⟩ (fun i σ H4 _ p => ?_) (fun i x σ Hx H4 hi p y => ?_) (fun σ H4 p => ?_)
  · obtain ⟨u, h1, h2⟩ := hVx t k hk
    refine ⟨u, h1, ?_⟩
    rw [if_neg (by rw [List.take_zero]; exact fun h => nomatch h)]
    exact h2.mono fL
  · obtain ⟨_, _, _, r4, _⟩ := p
    exact r4 _ _ hdcdi hdc0
  · obtain ⟨y3, y4, rfl, r4, kv4, hd4, hz4, hx4⟩ := p
    obtain ⟨rfl, ky, vy, ek, rfl⟩ := y
    rw [List.getElem?_map] at ek
    obtain ⟨⟨nm, cv⟩, ep, ee⟩ := Option.map_eq_some_iff.mp ek
    cases ee
    have hmem : (nm, cv) ∈ ks := List.mem_of_getElem? ep
    have en : ns[i]? = some nm := by rw [← hkn, List.getElem?_map, ep]; rfl
    have hnm : nm ∈ ns := List.mem_of_getElem? en
    obtain ⟨k, c, hk, hCc, hBc⟩ := hCO.1 nm hnm
    obtain ⟨c', hc1, hc2⟩ := hkc _ hmem
    have ecc : c' = c := by
      have : some c' = some c := hc1.symm.trans hCc
      exact Option.some.inj this
    subst ecc
    have etake : ns.take (i + 1) = ns.take i ++ [nm] := by rw [List.take_add_one, en]; rfl
    have f4 : FS HL H4 := fun b o u e => r4 b _ (ne_of e hdi0 (by intro z; cases z)) e
    obtain ⟨l1, eS, rS, l1l, hl1⟩ := (hSO nm k hk).rows
    obtain ⟨m1, eC, rC, m1l, hm1⟩ := hBc.rows
    obtain ⟨u, hu1, hu2⟩ := hVx nm k hk
    have hkr := kdOf_rank hk
    refine ⟨Nat.zero_le _, fun co hco => ?_⟩
    have s5 := same_new hco (.lst [])
    have hds4 := r4 _ _ hdsdi hds0
    have hdc4 := r4 _ _ hdcdi hdc0
    have hcs : ∀ (d : Addr) (kk : HO), H4 d = some kk → d ≠ co := fun d kk e => ne_of_none e hco
    refine ⟨_, rfl, _, rfl, _, rfl, ds, u, rfl, .inl ⟨kvs, Sum.inr nm, .inl (s5 _ _ hds4), rfl, hu1.symm⟩, ?_⟩
    refine ⟨co, u, 1, [], l1, rfl, ⟨[], upd_same, .nil⟩, by rw [← eS]; exact ((hu2.mono fL).mono f4).mono s5.fs, by rw [List.length_nil]; omega, fun p hp => one_mulok (hl1 p hp).2 (by omega) (by omega), fun H6 b6 t6 => ?_⟩
    have f56 : FS (upd H4 co (.lst [])) H6 := b6.fs upd_same
    have hdc6 := b6 _ _ (hcs _ _ hdc4) (s5 _ _ hdc4)
    refine ⟨_, rfl, _, rfl, _, rfl, dc, cv, rfl, .inl ⟨_, Sum.inr nm, .inr ⟨od, hdc6⟩, rfl, (valV_ks (by rw [hkn]; exact hnd) hmem).symm⟩, ?_⟩
    refine ⟨co, cv, 1, _, m1, rfl, t6, by rw [← eC]; exact (((hc2.mono fL).mono f4).mono s5.fs).mono f56, by rw [List.nil_append, scale_len]; omega, fun p hp => one_mulok (hm1 p hp).2 (by decide) (by decide), fun H7 b7 t7 => ?_⟩
    refine ⟨_, rfl, co, k, _, rfl, t7, by omega, fun p hp => ?_, by rw [List.nil_append, List.length_append, scale_len, scale_len]; omega, fun r H8 s8 t8 => ?_⟩
    · rcases List.mem_append.mp hp with hp | hp
      · exact scale_kind (fun p hp => (hl1 p hp).1.hasK (by decide)) p hp
      · exact scale_kind (fun p hp => (hm1 p hp).1.hasK (by decide)) p hp
    have b57 := b6.trans b7
    have r48 : ∀ b o, H4 b = some o → H8 b = some o := fun b o e => s8 _ _ (b57 b o (hcs _ _ e) (s5 _ _ e))
    have hd8 := r48 _ _ hd4
    have f89 : FS H8 (upd H8 di (.dK (putK kv4 (Sum.inr nm) r))) := fs_dK hd8
    obtain ⟨u4, hu41, _⟩ := hx4 nm k hk
    refine ⟨_, rfl, _, rfl, di, _, rfl, DPut.k (k := Sum.inr nm) hd8 (by rw [sizeLine_eq]; omega), ?_⟩
    refine ⟨_, _, rfl, fun b o h e => ?_, putK kv4 (Sum.inr nm) r, upd_same, by rw [putK_same hu41]; exact hz4, fun t k2 hk2 => ?_⟩
    · rw [upd_ne h]
      exact r48 _ _ (r4 b o h e)
    · rw [valV_putK]
      by_cases e : t = nm
      · subst e
        rw [if_pos rfl, if_pos (by rw [etake]; exact List.mem_append_right _ (List.mem_singleton_self _))]
        refine ⟨r, rfl, Tp.mono ?_ f89⟩
        rw [show withS S C t = mkBag (scale 1 (S t).rows ++ scale 1 c'.rows) from by unfold withS; rw [hCc], rS, rC]
        exact t8
      · rw [if_neg e]
        obtain ⟨u', h1, h2⟩ := hx4 t k2 hk2
        refine ⟨u', h1, ?_⟩
        have eif : (t ∈ ns.take (i + 1)) ↔ (t ∈ ns.take i) := by
          rw [etake, List.mem_append, List.mem_singleton]
          exact ⟨fun h => h.resolve_right e, .inl⟩
        have e2 : (if t ∈ ns.take (i + 1) then withS S C t else S t) = if t ∈ ns.take i then withS S C t else S t := by
          by_cases h : t ∈ ns.take i
          · rw [if_pos h, if_pos (eif.mpr h)]
          · rw [if_neg h, if_neg fun z => h (eif.mp z)]
        rw [e2]
        exact (h2.mono fun b o u e => r48 _ _ e).mono f89
  · obtain ⟨y3, y4, rfl, r4, kv4, hd4, hz4, hx4⟩ := p
    rw [hkl, List.take_length] at hx4
    have hdc4 := r4 _ _ hdcdi hdc0
    refine ⟨hdc4, _, rfl, ?_⟩
    have ft : FT H4 (upd H4 dc (.dK (ks.map entS))) := fun b o xs e => by rw [upd_ne (ne_of e hdc4 (by intro z; cases z))]; exact e
    refine q di _ (fun b o e => ?_) hdin ⟨kv4, by rw [upd_ne hdcdi.symm]; exact hd4, hz4, fun t k hk => ?_⟩
    · by_cases h : b = dc
      · subst h
        rw [upd_same]
        rw [hcd] at e
        exact e
      · rw [upd_ne h]
        exact r4 _ _ (ne_of_none e hdin) (hall b o h e)
    · obtain ⟨u, h1, h2⟩ := hx4 t k hk
      refine ⟨u, h1, Tp.monoT ?_ ft⟩
      by_cases h : t ∈ ns
      · rw [if_pos h] at h2
        exact h2
      · rw [if_neg h] at h2
        rw [show withS S C t = S t from by unfold withS; rw [hCO.2 t h]]
        exact h2
theorem ok_nms {f fD : Addr} {fd fdD : FuncData} (F : Fun K "_law_names" "_law_names" sNms f fd)
    (GD : FnOk P w K mg base CX0 1 fD fdD ["seed", "most"] spDraw) (bD : Binds K fdD ["seed", "most"] []) (kD : PySem.W.keepIn K (.ref fD) = true) (mD : mg "_law_draw" = some (.ref fD)) :
    FnOk P w K mg base CX0 2 f fd ["seed", "mark"] spNms := by
  refine F.ok scNms (fun vs H Q E h => ?_) (fun cdv A outer s H vs Q E hr h => ?_)
  · obtain ⟨sd, rfl, _⟩ := h
    rfl
  obtain ⟨sd, rfl, hS, q⟩ := h
  refine ⟨_, pss_cons (ps_set (i := 2) scNms.nd rfl (.inl rfl) pe_dnewK)
    (pss_cons (ps_for PassesOwn.never rfl (pi_list (pe_lst (pa_cons pe_str (pa_cons pe_str (pa_cons pe_str (pa_cons pe_str (pa_cons pe_str pa_nil))))))) (pg_name (i := 3) scNms.nd rfl (.inl rfl))
      (pss_one (ps_if (pt_cmpR op_gt (pe_call GD hr rfl mD kD bD .nil pass0 (pa_cons (pv 0) (pa_cons pe_int pa_nil))) pe_int (nomark _))
        (pss_one (ps_dput (hu_of hr) (pv 2) (pv 3) (pe_op op_add_str (pv 1) (pv 3)) rfl)) pss_nil)))
    (pss_one (ps_ret (pv 2)))), ?_⟩
  intro d hd
  have s1 := same_new hd (.dK [])
  have x1 := SX.ofSame hS s1
  have hds : d ≠ sd := (hS.ne hd).symm
  have hd1 : (upd H d (.dK [])) d = some (.dK []) := upd_same
  generalize (upd H d (.dK [])) = H1 at s1 x1 hd1 ⊢
  refine ⟨five_le, fun L hL => ?_⟩
  have s2 := same_new hL (.lst [.str "r", .str "s", .str "t", .str "u", .str "v"])
  have x2 := x1.same s2
  have hd2 := s2 _ _ hd1
  have hLs : L ≠ sd := (x1.2.ne hL).symm
  have hLd : L ≠ d := (ne_of_none hd1 hL).symm
  have hL2 : (upd H1 L (.lst [.str "r", .str "s", .str "t", .str "u", .str "v"])) L = some (.lst [.str "r", .str "s", .str "t", .str "u", .str "v"]) := upd_same
  generalize (upd H1 L (.lst [.str "r", .str "s", .str "t", .str "u", .str "v"])) = H2 at x2 hd2 hL2 ⊢
  refine ⟨L, rfl, ⟨_, SqL.of hL2⟩, ?_⟩
  refine for_list (xs := T5.map V.str) (fun i σ H4 => ∃ y3, σ = [some (.ref sd), some (.str "d"), some (.ref d), y3] ∧ (∀ b o, b ≠ sd → b ≠ d → H2 b = some o → H4 b = some o) ∧ Sd H4 sd ∧
      ∃ ks : List (Str × V), H4 d = some (.dK (ks.map entS)) ∧ (ks.map (·.1)).Sublist (T5.take i))
    ⟨none, rfl, fun _ _ _ _ e => e, x2.2, [], hd2, List.nil_sublist _⟩ (fun i σ H4 _ p => ?_) (fun i x σ H4 hx p => ?_) (fun σ H4 p => ?_)
  · obtain ⟨_, _, r4, _⟩ := p
    exact SqL.of (r4 _ _ hLs hLd hL2)
  · obtain ⟨y3, rfl, r4, hS4, ks, hd4, hsub⟩ := p
    rw [List.getElem?_map] at hx
    obtain ⟨nm, ey, rfl⟩ := Option.map_eq_some_iff.mp hx
    have hnT : nm ∈ T5 := List.mem_of_getElem? ey
    have etake : T5.take (i + 1) = T5.take i ++ [nm] := by rw [List.take_add_one, ey]; rfl
    have hnd5 : T5.Nodup := by decide
    have hnew : nm ∉ ks.map (·.1) := by
      have h1 : (T5.take (i + 1)).Nodup := hnd5.sublist (List.take_sublist _ _)
      rw [etake, List.nodup_append] at h1
      exact fun h => h1.2.2 nm (hsub.subset h) nm (List.mem_singleton_self _) rfl
    refine ⟨_, rfl, sd, 4, rfl, hS4, by decide, by decide, fun r5 H5 h50 h51 x5 => ⟨_, _, rfl, rfl, _, rfl, ?_⟩⟩
    have hd5 := x5.1 _ _ hds hd4
    refine ite2 (fun c => ?_) (fun c => ⟨_, rfl, fun b o h1 h2 e => x5.1 _ _ h1 (r4 b o h1 h2 e), x5.2, ks, hd5, by rw [etake]; exact hsub.trans (List.sublist_append_left _ _)⟩)
    have hlen : ∀ t ∈ T5, ("d" : Str).length + t.length ≤ sizeLine := by
      rw [sizeLine_eq]
      decide
    have hkl : ks.length ≤ 5 := by
      have := hsub.length_le
      rw [List.length_map, List.length_take] at this
      have e5 : T5.length = 5 := rfl
      omega
    refine ⟨_, rfl, _, rfl, _, _, rfl, rfl, hlen nm hnT, _, rfl, _, rfl, d, _, rfl, DPut.k (k := Sum.inr nm) hd5 (by rw [List.length_map, sizeLine_eq]; omega), ?_⟩
    rw [putK_new hnew]
    refine ⟨_, rfl, fun b o h1 h2 e => ?_, ?_, ks ++ [(nm, .str ("d" ++ nm))], upd_same, ?_⟩
    · rw [upd_ne h2]
      exact x5.1 _ _ h1 (r4 b o h1 h2 e)
    · obtain ⟨n1, n2, n3, n4, e⟩ := x5.2
      exact ⟨n1, n2, n3, n4, by rw [upd_ne hds.symm]; exact e⟩
    · rw [etake, List.map_append]
      exact hsub.append (List.Sublist.refl _)
  · obtain ⟨y3, rfl, r4, hS4, ks, hd4, hsub⟩ := p
    rw [List.length_map, List.take_length] at hsub
    exact ⟨_, rfl, q d H4 ks ⟨fun b o h e => r4 b o h (ne_of_none e hd) (x2.1 _ _ h e), hS4⟩ hd hd4 hsub⟩
end
end N97

/-! KaG2 -/
set_option maxRecDepth 100000
namespace N97
open PySem PySem.W PyProof.Rows

/-! ### the program's own view of a question -/
def Q.prop (q : Q) : Bool := q.isQ || q.isC
def Q.subs : Q → List Q
  | .row fs => fs.spF.map (·.2)
  | .att _ q => [q]
  | .add a b => [a, b]
  | .mul a b => [a, b]
  | .one q => [q]
  | .both a b => [a, b]
  | .times _ q => [q]
  | .for_ _ a b => [a, b]
  | .when_ a b => [a, b]
  | .let_ _ a b => [a, b]
  | .same a b => [a, b]
  | .under a b => [a, b]
  | .and_ a b => [a, b]
  | .or_ a b => [a, b]
  | .not_ a => [a]
  | _ => []
def NoT : Q → Bool
  | .table _ => false
  | .row fs => NoT fs
  | .fcons _ q r => NoT q && NoT r
  | .att _ q => NoT q
  | .add a b => NoT a && NoT b
  | .mul a b => NoT a && NoT b
  | .one q => NoT q
  | .both a b => NoT a && NoT b
  | .times _ q => NoT q
  | .for_ _ a b => NoT a && NoT b
  | .when_ a b => NoT a && NoT b
  | .let_ _ a b => NoT a && NoT b
  | .same a b => NoT a && NoT b
  | .under a b => NoT a && NoT b
  | .and_ a b => NoT a && NoT b
  | .or_ a b => NoT a && NoT b
  | .not_ a => NoT a
  | _ => true
def evenQ : Q → Bool
  | .row fs => evenQ fs
  | .fcons _ q r => evenQ q && evenQ r
  | .att _ q => NoT q && evenQ q
  | .add a b => evenQ a && evenQ b
  | .mul a b => evenQ a && evenQ b
  | .one q => NoT q && evenQ q
  | .both a b => evenQ a && evenQ b
  | .times _ q => evenQ q
  | .for_ _ a b => evenQ a && evenQ b
  | .when_ a b => evenQ a && evenQ b
  | .let_ _ a b => NoT a && (evenQ a && evenQ b)
  | .same a b => evenQ a && evenQ b
  | .under a b => evenQ a && evenQ b
  | .and_ a b => evenQ a && evenQ b
  | .or_ a b => evenQ a && evenQ b
  | .not_ a => evenQ a
  | _ => true
def degQ (ns : List Str) : Q → Nat
  | .table t => if t ∈ ns then 1 else 0
  | .both a b => max (degQ ns a) (degQ ns b)
  | .times _ q => degQ ns q
  | .when_ _ q => degQ ns q
  | .for_ _ a b => degQ ns a + degQ ns b
  | .let_ _ _ b => degQ ns b
  | _ => 0
def Q.sz : Q → Nat
  | .row fs => fs.sz + 1
  | .fnil => 0
  | .fcons _ q r => q.sz + r.sz
  | .att _ q => q.sz + 1
  | .add a b => a.sz + b.sz + 1
  | .mul a b => a.sz + b.sz + 1
  | .one q => q.sz + 1
  | .both a b => a.sz + b.sz + 1
  | .times _ q => q.sz + 1
  | .for_ _ a b => a.sz + b.sz + 1
  | .when_ a b => a.sz + b.sz + 1
  | .let_ _ a b => a.sz + b.sz + 1
  | .same a b => a.sz + b.sz + 1
  | .under a b => a.sz + b.sz + 1
  | .and_ a b => a.sz + b.sz + 1
  | .or_ a b => a.sz + b.sz + 1
  | .not_ a => a.sz + 1
  | _ => 1
/-- well made: what stands where a question stands is one, fields are few, tables are known -/
def WF : Q → Prop
  | .table t => t ∈ T5
  | .row fs => (∃ l, fs = .ofF l ∧ l.length ≤ 100) ∧ WF fs
  | .fcons _ q r => q.prop = true ∧ WF q ∧ WF r
  | .att _ q => q.prop = true ∧ WF q
  | .add a b => (a.prop = true ∧ WF a) ∧ b.prop = true ∧ WF b
  | .mul a b => (a.prop = true ∧ WF a) ∧ b.prop = true ∧ WF b
  | .one q => q.prop = true ∧ WF q
  | .both a b => (a.prop = true ∧ WF a) ∧ b.prop = true ∧ WF b
  | .times _ q => q.prop = true ∧ WF q
  | .for_ _ a b => (a.prop = true ∧ WF a) ∧ b.prop = true ∧ WF b
  | .when_ a b => (a.prop = true ∧ WF a) ∧ b.prop = true ∧ WF b
  | .let_ _ a b => (a.prop = true ∧ WF a) ∧ b.prop = true ∧ WF b
  | .same a b => (a.prop = true ∧ WF a) ∧ b.prop = true ∧ WF b
  | .under a b => (a.prop = true ∧ WF a) ∧ b.prop = true ∧ WF b
  | .and_ a b => (a.prop = true ∧ WF a) ∧ b.prop = true ∧ WF b
  | .or_ a b => (a.prop = true ∧ WF a) ∧ b.prop = true ∧ WF b
  | .not_ a => a.prop = true ∧ WF a
  | _ => True
def Q.isTab : Q → Bool
  | .table _ => true
  | _ => false
theorem noT_ofF : ∀ l : List (Str × Q), NoT (.ofF l) = (l.map (·.2)).all NoT
  | [] => rfl
  | (f, q) :: r => by
    show (NoT q && NoT (.ofF r)) = (NoT q && (r.map (·.2)).all NoT)
    rw [noT_ofF r]
theorem even_ofF : ∀ l : List (Str × Q), evenQ (.ofF l) = (l.map (·.2)).all evenQ
  | [] => rfl
  | (f, q) :: r => by
    show (evenQ q && evenQ (.ofF r)) = (evenQ q && (r.map (·.2)).all evenQ)
    rw [even_ofF r]
theorem sz_ofF : ∀ l : List (Str × Q), (Q.ofF l).sz = ((l.map (·.2)).map Q.sz).sum
  | [] => rfl
  | (f, q) :: r => by
    show q.sz + (Q.ofF r).sz = q.sz + ((r.map (·.2)).map Q.sz).sum
    rw [sz_ofF r]
theorem wf_ofF : ∀ {l : List (Str × Q)}, WF (.ofF l) → ∀ q ∈ l.map (·.2), q.prop = true ∧ WF q
  | [], _, q, h => nomatch h
  | (f, p) :: r, hw, q, h => by
    obtain ⟨h1, h2, h3⟩ := hw
    rcases List.mem_cons.mp h with rfl | h
    · exact ⟨h1, h2⟩
    · exact wf_ofF h3 q h
theorem dep_ofF' : ∀ {l : List (Str × Q)}, ∀ q ∈ l.map (·.2), q.dep ≤ (Q.ofF l).dep
  | [], q, h => nomatch h
  | (f, p) :: r, q, h => by
    rcases List.mem_cons.mp h with rfl | h
    · exact Nat.le_max_left _ _
    · exact Nat.le_trans (dep_ofF' q h) (Nat.le_max_right _ _)
theorem noT_subs {q : Q} (hp : q.prop = true) (hw : WF q) : NoT q = (!q.isTab && q.subs.all NoT) := by
  cases q <;> first
    | (simp [NoT, Q.isTab, Q.subs]; done)
    | (simp [Q.prop, Q.isQ, Q.isC] at hp; done)
    | (obtain ⟨⟨l, rfl, _⟩, _⟩ := hw
       show NoT (.ofF l) = _
       rw [noT_ofF]
       simp [Q.isTab, Q.subs])
theorem sz_subs {q : Q} (hp : q.prop = true) (hw : WF q) : q.sz = (q.subs.map Q.sz).sum + 1 := by
  cases q <;> first
    | (simp [Q.sz, Q.subs]; done)
    | (simp [Q.prop, Q.isQ, Q.isC] at hp; done)
    | (obtain ⟨⟨l, rfl, _⟩, _⟩ := hw
       show (Q.ofF l).sz + 1 = _
       rw [sz_ofF]
       simp [Q.subs])
theorem wf_subs {q : Q} (hp : q.prop = true) (hw : WF q) : ∀ s ∈ q.subs, s.prop = true ∧ WF s := by
  cases q <;> first
    | (simp [Q.prop, Q.isQ, Q.isC] at hp; done)
    | (intro s h; cases h; done)
    | (intro s h
       obtain rfl := List.mem_singleton.mp h
       exact hw)
    | (intro s h
       rcases List.mem_cons.mp h with rfl | h
       · exact hw.1
       · obtain rfl := List.mem_singleton.mp h
         exact hw.2)
    | (obtain ⟨⟨l, rfl, _⟩, hw⟩ := hw
       intro s h
       refine wf_ofF hw s ?_
       simpa [Q.subs] using h)
theorem dep_subs {q : Q} (hp : q.prop = true) (hw : WF q) : ∀ s ∈ q.subs, s.dep < q.dep := by
  cases q <;> first
    | (simp [Q.prop, Q.isQ, Q.isC] at hp; done)
    | (intro s h; cases h; done)
    | (intro s h
       obtain rfl := List.mem_singleton.mp h
       exact Nat.lt_succ_self _)
    | (intro s h
       rcases List.mem_cons.mp h with rfl | h
       · exact Nat.lt_succ_of_le (Nat.le_max_left _ _)
       · obtain rfl := List.mem_singleton.mp h
         exact Nat.lt_succ_of_le (Nat.le_max_right _ _))
    | (obtain ⟨⟨l, rfl, _⟩, hw⟩ := hw
       intro s h
       refine Nat.lt_succ_of_le (dep_ofF' s ?_)
       simpa [Q.subs] using h)
/-- whether is_even looks for tables in a part -/
def Q.oddPart : Q → Option Q
  | .one q => some q
  | .att _ q => some q
  | .let_ _ a _ => some a
  | _ => none
def Q.oddOk (q : Q) : Bool := match q.oddPart with | some p => NoT p | none => true
theorem even_subs {q : Q} (hp : q.prop = true) (hw : WF q) : evenQ q = (q.oddOk && q.subs.all evenQ) := by
  cases q <;> first
    | (simp [evenQ, Q.oddOk, Q.oddPart, Q.subs]; done)
    | (simp [Q.prop, Q.isQ, Q.isC] at hp; done)
    | (obtain ⟨⟨l, rfl, _⟩, _⟩ := hw
       show evenQ (.ofF l) = _
       rw [even_ofF]
       simp [Q.oddOk, Q.oddPart, Q.subs])
end N97

/-! KaWg -/
set_option maxRecDepth 100000
set_option maxHeartbeats 8000000
namespace N97
open PySem PySem.Spec PyProof.Rows L2
abbrev sUnd : Stmt := topS 2
abbrev sTab : Stmt := topS 3
abbrev sEvn : Stmt := topS 5
abbrev sDeg : Stmt := topS 6
abbrev nUnd : List Str := ["question", "field", "own", "form", "part"]
abbrev nTab : List Str := ["question", "found", "waiting", "part"]
abbrev nEvn : List Str := ["question", "part"]
abbrev nDeg : List Str := ["question", "names", "word"]
theorem scUnd : FnScope nUnd ["question"] (defScope sUnd) := ⟨rfl, rfl, rfl, by decide +kernel, rfl, by decide +kernel, by decide +kernel⟩
theorem scTab : FnScope nTab ["question"] (defScope sTab) := ⟨rfl, rfl, rfl, by decide +kernel, rfl, by decide +kernel, by decide +kernel⟩
theorem scEvn : FnScope nEvn ["question"] (defScope sEvn) := ⟨rfl, rfl, rfl, by decide +kernel, rfl, by decide +kernel, by decide +kernel⟩
theorem scDeg : FnScope nDeg ["question", "names"] (defScope sDeg) := ⟨rfl, rfl, rfl, by decide +kernel, rfl, by decide +kernel, by decide +kernel⟩

/-! ### FORMS -/
def forms : List (Str × Str) := [("num", "n"), ("word", "w"), ("var", "w"), ("table", "w"), ("at", "wq"), ("add", "qq"), ("mul", "qq"), ("none", "k"), ("one", "q"), ("both", "qq"), ("times", "nq"), ("for", "wqq"), ("when", "tq"), ("let", "wqq"), ("same", "qq"), ("under", "qq"), ("and", "tt"), ("or", "tt"), ("not", "t")]
/-- a question that is no row: its word, its form, the rest of it -/
def Q.shape : N97.Q → Str × Str × List PyData
  | .num n => ("num", "n", [.int n])
  | .word s => ("word", "w", [.str s])
  | .var x => ("var", "w", [.str x])
  | .table t => ("table", "w", [.str t])
  | .att f q => ("at", "wq", [.str f, q.enc])
  | .add a b => ("add", "qq", [a.enc, b.enc])
  | .mul a b => ("mul", "qq", [a.enc, b.enc])
  | .none_ k => ("none", "k", [k.enc])
  | .one q => ("one", "q", [q.enc])
  | .both a b => ("both", "qq", [a.enc, b.enc])
  | .times m q => ("times", "nq", [.int m, q.enc])
  | .for_ x a b => ("for", "wqq", [.str x, a.enc, b.enc])
  | .when_ t q => ("when", "tq", [t.enc, q.enc])
  | .let_ x a b => ("let", "wqq", [.str x, a.enc, b.enc])
  | .same a b => ("same", "qq", [a.enc, b.enc])
  | .under a b => ("under", "qq", [a.enc, b.enc])
  | .and_ a b => ("and", "tt", [a.enc, b.enc])
  | .or_ a b => ("or", "tt", [a.enc, b.enc])
  | .not_ a => ("not", "t", [a.enc])
  | _ => ("", "", [])
def pickZ (l : List (Nat × PyData)) : List PyData := (l.filter fun p => decide (p.1 ∈ ("qt" : Str).cps.toList)).map (·.2)
theorem shape_ok {q : N97.Q} (hp : q.prop = true) (hr : ∀ fs, q ≠ .row fs) : q.enc = .tuple (.str (Q.shape q).1 :: (Q.shape q).2.2) ∧ ((Q.shape q).1, (Q.shape q).2.1) ∈ forms ∧ (Q.shape q).1 ≠ "row" ∧
    (Q.shape q).2.1.cps.toList.length = (Q.shape q).2.2.length ∧ (Q.shape q).2.2.length ≤ 3 ∧ (Q.shape q).2.2 ≠ [] ∧ pickZ ((Q.shape q).2.1.cps.toList.zip (Q.shape q).2.2) = q.subs.map N97.Q.enc := by
  cases q <;> first
    | (simp [N97.Q.prop, N97.Q.isQ, N97.Q.isC] at hp; done)
    | exact absurd rfl (hr _)
    | exact ⟨rfl, (by simp only [Q.shape]; decide), (by simp only [Q.shape]; decide), rfl, (by simp [Q.shape]), (fun z => nomatch z), rfl⟩
theorem walk_zipX {K : PySem.W.Frag} {x : Str} {b : Addr} {ys : List V} (hn : x.cps.toList.length = ys.length) : Walk (ItzX K x b) ys.length (fun H => SqT K H b ys)
    (fun i H v H' => ∃ T c y, v = .ref T ∧ H T = none ∧ H' = upd H T (.tup [.str ⟨#[c]⟩, y]) ∧ x.cps.toList[i]? = some c ∧ ys[i]? = some y) := by
  have hs : x.cps.size = ys.length := by rw [← hn, Array.length_toList]
  refine ⟨fun i H hi q => ⟨ys, x.cps[i]'(by omega), ys[i], q, by simp [show i < x.cps.size by omega], by simp [hi]⟩, fun H q => ⟨ys, q, by omega, Nat.le_refl _, .inr rfl⟩, fun i H v H' hi q y => ?_⟩
  obtain ⟨T, c, y, h1, h2, h3, h4, h5⟩ := y
  exact ⟨T, c, y, h1, h2, h3, by simpa using h4, h5 ys q⟩
def spUnd : Sp := fun vs H Q _ => ∃ (a : V) (q : N97.Q), vs = [a] ∧ q.prop = true ∧ WF q ∧ Tp H a q.enc ∧ ∀ r H', Same H H' → Tp H' r (.tuple (q.subs.map N97.Q.enc)) → Q r H'
section
variable {P : Program} {w : World} {K : PySem.W.Frag} {mg : Str → Option Value} {base : Heap}
theorem ok_und {f dF : Addr} {fd : FuncData} {k : Nat} (F : Fun K "under" "under" sUnd f fd) (mF : mg "FORMS" = some (.ref dF)) (hF : ∀ p ∈ forms, KDct K w dF p.1 (.str p.2)) (mt : mg "tuple" = none) (mz : mg "zip" = none) :
    FnOk P w K mg base CX0 (k + 1) f fd ["question"] spUnd := by
  refine F.ok scUnd (fun vs H Q E h => ?_) (fun cdv A outer s H vs Q E hr h => ?_)
  · obtain ⟨a, q, rfl, _⟩ := h
    rfl
  obtain ⟨a, q, rfl, hp, hw, hT, qq⟩ := h
  refine ⟨_, pss_cons (ps_if (pt_cmpR op_eq (pe_ix ix_tup (pv 0) pe_int (fun _ _ => rfl)) pe_str (nomark _))
      (pss_one (ps_ret (pe_callTy call_tupleF (by rfl) mt (by decide +kernel) (pa_cons
        (pe_lc (own := [("field", 1), ("own", 2)]) (g := gTup K 2 (gCons (gName 1) (gCons (gName 2) gNil))) (tt := tYes) rfl scUnd.nd (pi_tup (pe_ix ix_tup (pv 0) pe_int (fun _ _ => rfl))) (blkOk_by (N := nUnd) (sc := defScope sUnd) (by decide +kernel))
          (fun _ _ _ _ _ => pg_tup rfl (pgs_cons (pg_name (i := 1) scUnd.nd rfl (.inl rfl)) (pgs_cons (pg_name (i := 2) scUnd.nd rfl (.inl rfl)) pgs_nil))) (fun _ _ _ _ _ => pts_nil)
          (fun _ _ _ _ _ => pv 2)) pa_nil)))) pss_nil)
    (pss_one (ps_ret (pe_callTy call_tupleF (by rfl) mt (by decide +kernel) (pa_cons
        (pe_lc (own := [("form", 3), ("part", 4)]) (g := gTup K 2 (gCons (gName 3) (gCons (gName 4) gNil))) (tt := tTest (tOp rInS (tVar 3) (L2.tC (.str "qt")))) rfl scUnd.nd
          (pi_zipX rfl mz (pa_cons (pe_ix ix_kdict (pe_glob (v := .ref dF) rfl mF rfl) (pe_ix ix_tup (pv 0) pe_int (fun _ _ => rfl)) (fun _ _ => rfl)) (pa_cons (pe_slice sl_tupA (pv 0) (po_some pe_int) po_none) pa_nil))) (blkOk_by (N := nUnd) (sc := defScope sUnd) (by decide +kernel))
          (fun _ _ _ _ _ => pg_tup rfl (pgs_cons (pg_name (i := 3) scUnd.nd rfl (.inl rfl)) (pgs_cons (pg_name (i := 4) scUnd.nd rfl (.inl rfl)) pgs_nil)))
          (fun _ _ _ _ _ => pts_one (pt_cmpR op_inS (pv 3) pe_str (by rfl)))
          (fun _ _ _ _ _ => pv 4)) pa_nil)))), ?_⟩
  by_cases hrow : ∃ fs, q = .row fs
  · obtain ⟨fs, rfl⟩ := hrow
    obtain ⟨⟨l, rfl, hl⟩, hw⟩ := hw
    obtain ⟨t, x0, x1, rfl, f0, t0, t1⟩ := hT.i2
    obtain rfl := t0.strI
    rw [N97.Q.enc_ofF] at t1
    obtain ⟨b, xs, rfl, fb, tb⟩ := t1.tupI
    have hlen : xs.length = l.length := by rw [tb.len, List.length_map]
    refine ⟨_, rfl, t, _, 0, _, rfl, rfl, f0.sq, rfl, rfl, _, rfl, iteT ?_⟩
    refine ⟨_, rfl, t, _, 1, _, rfl, rfl, f0.sq, rfl, b, rfl, ⟨xs, fb.sq⟩, fun D hD => ?_⟩
    refine lc_tupD (xs := xs) (l.map fun p => p.2.enc) hD fb.sq (by rw [List.length_map, hlen]) (Nat.le_trans (by omega : xs.length ≤ 100) (by decide)) (fun i x d H2 C hx hd s2 c => ?_) (fun H2 acc s2 hA tA => ?_)
    · obtain ⟨d', e1, t2⟩ := tb.get hx
      obtain ⟨p, ep⟩ : ∃ p, l[i]? = some p := ⟨l[i]'(by rw [← hlen]; exact (List.getElem?_eq_some_iff.mp hx).1), List.getElem?_eq_getElem _⟩
      rw [List.getElem?_map, ep] at e1 hd
      cases e1
      cases hd
      obtain ⟨a2, y0, y1, rfl, f2, u0, u1⟩ := (t2.mono s2.fs).i2
      exact ⟨a2, _, rfl, f2.sq, rfl, _, _, rfl, _, _, rfl, rfl, rfl, _, rfl, c _ _ (.refl _) u1⟩
    · refine ⟨D, acc, rfl, SqL.of hA, fun p o hp no => ?_⟩
      refine qq _ _ (s2.trans (same_new hp _)) (.new hp no ?_)
      have e : (N97.Q.row (.ofF l)).subs = l.map (·.2) := by simp [N97.Q.subs]
      rw [e, List.map_map]
      exact tA
  · obtain ⟨e1, e2, e3, e4, e5, e6, e7⟩ := shape_ok hp (fun fs e => hrow ⟨fs, e⟩)
    rw [e1] at hT
    rw [← e7] at qq
    have hKD := hF _ e2
    generalize (N97.Q.shape q).1 = tag at *
    generalize (N97.Q.shape q).2.1 = fm at *
    generalize (N97.Q.shape q).2.2 = rest at *
    obtain ⟨t, xs, rfl, f0, t0⟩ := hT.tupI
    cases t0 with
    | @cons v0 vr _ _ h0 tr =>
      obtain rfl := h0.strI
      have lr : vr.length = rest.length := tr.len
      have er : decide (V.str tag = V.str "row") = false := decide_eq_false fun z => e3 (V.str.inj z)
      refine ⟨_, rfl, t, _, 0, _, rfl, rfl, f0.sq, atI0, rfl, _, rfl, iteFe er ?_⟩
      refine ⟨_, rfl, t, _, 0, _, rfl, rfl, f0.sq, atI0, dF, tag, .str fm, rfl, rfl, hKD, ?_⟩
      have hlr : 0 < rest.length := List.length_pos_iff.mpr e6
      have h1 : HT.sIx (V.str tag :: vr).length 0 (some 1) = 1 := by
        simp [HT.sIx]
      have hcut : cutV (V.str tag :: vr) (some 1) none = vr := by
        unfold cutV
        rw [h1]
        show (vr.take (vr.length + 1 - 1)) = vr
        rw [Nat.add_sub_cancel, List.take_length]
      refine ⟨_, rfl, 1, rfl, t, _, rfl, f0.sq, fun hw0 => ?_, fun _ p hpn => ?_⟩
      · exact absurd (h1.symm.trans hw0.1) (by decide)
      rw [hcut]
      have s1 := same_new hpn (.tup vr)
      have hq : SqT K (upd H p (.tup vr)) p vr := SqT.of upd_same
      have tr1 := tr.mono s1.fs
      have hup : (upd H p (.tup vr)) p = some (.tup vr) := upd_same
      generalize upd H p (.tup vr) = H1 at s1 hq tr1 hup ⊢
      refine ⟨fm, p, vr, rfl, hq, fun D hD => ?_⟩
      refine lc_it (walk_zipX (by rw [e4, lr])) (fun i H2 => Same H1 H2 ∧ ∃ acc, H2 D = some (.lst acc) ∧ TpAll H2 acc (pickZ ((fm.cps.toList.zip rest).take i)))
        ⟨same_new hD _, [], upd_same, .nil⟩ (fun i H2 _ p => SqT.of (p.1 _ _ hup)) (fun i x H2 H3 hi p y => ?_) (fun H2 p => ?_)
      · obtain ⟨s2, acc, hA, tA⟩ := p
        obtain ⟨T, c, yv, rfl, hT0, rfl, hc, hy⟩ := y
        have s3 := same_new hT0 (.tup [.str ⟨#[c]⟩, yv])
        obtain ⟨d, ed, td⟩ := tr1.get hy
        have ez : (fm.cps.toList.zip rest)[i]? = some (c, d) := by
          rw [List.getElem?_zip_eq_some]
          exact ⟨hc, ed⟩
        have etake : (fm.cps.toList.zip rest).take (i + 1) = (fm.cps.toList.zip rest).take i ++ [(c, d)] := by rw [List.take_add_one, ez]; rfl
        refine ⟨T, _, rfl, SqT.of upd_same, rfl, _, _, rfl, _, _, rfl, rfl, rfl, ?_⟩
        refine ⟨_, rfl, c, "qt", rfl, rfl, _, rfl, ?_⟩
        by_cases hcq : c ∈ ("qt" : Str).cps.toList
        · rw [decide_eq_true hcq]
          refine iteT ⟨_, rfl, acc, s3 _ _ hA, ?_, fun b o e => ?_, acc ++ [yv], upd_same, ?_⟩
          · rw [tA.len, sizeLine_eq]
            unfold pickZ
            rw [List.length_map]
            have h1 := List.length_filter_le (fun p : Nat × PyData => decide (p.1 ∈ ("qt" : Str).cps.toList)) ((fm.cps.toList.zip rest).take i)
            rw [List.length_take] at h1
            omega
          · rw [upd_ne (ne_of_none e hD)]
            exact s3 _ _ (s2 _ _ e)
          · rw [etake]
            unfold pickZ
            rw [List.filter_append, List.map_append, List.filter_cons_of_pos (by simpa using hcq)]
            exact ((tA.mono s3.fs).snoc ((td.mono s2.fs).mono s3.fs)).mono (fs_lst (s3 _ _ hA))
        · rw [decide_eq_false hcq]
          refine iteF ⟨s2.trans s3, acc, s3 _ _ hA, ?_⟩
          rw [etake]
          unfold pickZ
          rw [List.filter_append, List.map_append, List.filter_cons_of_neg (by simpa using hcq)]
          simpa [pickZ] using tA.mono s3.fs
      · obtain ⟨s2, acc, hA, tA⟩ := p
        rw [List.take_of_length_le (by rw [List.length_zip]; omega)] at tA
        exact ⟨D, acc, rfl, SqL.of hA, fun p o hp no => qq _ _ (s1.trans (s2.trans (same_new hp _))) (.new hp no tA)⟩
end
end N97

/-! KaWh -/
set_option maxRecDepth 100000
set_option maxHeartbeats 8000000
namespace N97
open PySem PySem.Spec PyProof.Rows L2
def spTab : Sp := fun vs H Q _ => ∃ (a : V) (q : N97.Q), vs = [a] ∧ q.prop = true ∧ WF q ∧ q.sz ≤ 1000000 ∧ Tp H a q.enc ∧ ∀ p H' (xs : List Str), Same H H' → H' p = some (.lst (xs.map V.str)) → xs.isEmpty = NoT q → Q (.ref p) H'
def spEvn (n : Nat) : Sp := fun vs H Q _ => ∃ (a : V) (q : N97.Q), vs = [a] ∧ q.prop = true ∧ WF q ∧ q.dep ≤ n ∧ q.sz ≤ 1000000 ∧ Tp H a q.enc ∧ ∀ H', Same H H' → Q (.bl (evenQ q)) H'
def spDeg (n : Nat) : Sp := fun vs H Q _ => ∃ (a : V) (pn : Addr) (q : N97.Q) (ns : List Str), vs = [a, .ref pn] ∧ q.prop = true ∧ WF q ∧ q.dep ≤ n ∧ Tp H a q.enc ∧ H pn = some (.lst (ns.map V.str)) ∧ ∀ H', Same H H' → Q (.int (degQ ns q)) H'
theorem TpAll.split1 {H : Hp} {d : PyData} : ∀ {ds : List PyData} {vs : List V}, TpAll H vs (ds ++ [d]) → ∃ fz gz, vs = fz ++ [gz] ∧ TpAll H fz ds ∧ Tp H gz d
  | [], vs, h => by
    obtain ⟨v, rfl, hv⟩ := h.i1
    exact ⟨[], v, rfl, .nil, hv⟩
  | d0 :: ds, vs, h => by
    cases h with
    | cons h1 h2 =>
      obtain ⟨fz, gz, rfl, a1, a2⟩ := TpAll.split1 (ds := ds) h2
      exact ⟨_ :: fz, gz, rfl, .cons h1 a1, a2⟩
theorem NoT_def (q : N97.Q) (hp : q.prop = true) (hw : WF q) : NoT q = (!q.isTab && q.subs.all NoT) := noT_subs hp hw
theorem sz_mem {l : List N97.Q} {q : N97.Q} (h : q ∈ l) : q.sz ≤ (l.map N97.Q.sz).sum := by
  induction l with
  | nil => cases h
  | cons a r ih =>
    rw [List.map_cons, List.sum_cons]
    rcases List.mem_cons.mp h with rfl | h
    · omega
    · have := ih h
      omega
theorem sz_len {l : List N97.Q} (h : ∀ q ∈ l, q.prop = true ∧ WF q) : l.length ≤ (l.map N97.Q.sz).sum := by
  induction l with
  | nil => exact Nat.le_refl _
  | cons a r ih =>
    rw [List.map_cons, List.sum_cons, List.length_cons]
    have h1 := ih fun q hq => h q (List.mem_cons_of_mem _ hq)
    obtain ⟨h2, h3⟩ := h a (List.mem_cons_self ..)
    have := sz_subs h2 h3
    omega
theorem nodup_len : ∀ {l s : List Str}, l.Nodup → (∀ k ∈ l, k ∈ s) → l.length ≤ s.length
  | [], _, _, _ => Nat.zero_le _
  | a :: r, s, h, hs => by
    rw [List.nodup_cons] at h
    have h1 : r.length ≤ (s.erase a).length := nodup_len h.2 fun k hk => (List.mem_erase_of_ne fun e => h.1 (by rw [← e]; exact hk)).mpr (hs k (List.mem_cons_of_mem _ hk))
    have h2 := hs a (List.mem_cons_self ..)
    rw [List.length_erase_of_mem h2] at h1
    have := List.length_pos_of_mem h2
    rw [List.length_cons]
    omega
theorem nodup_T5 {ks : List Str} (h : ks.Nodup) (hs : ∀ k ∈ ks, k ∈ T5) : ks.length ≤ 5 := nodup_len h hs
theorem isTab_tag {q : N97.Q} (h : q.isTab = true) : ∃ t, q = .table t := by
  cases q <;> first | exact ⟨_, rfl⟩ | exact absurd h (by simp [N97.Q.isTab])
/-- a question's word -/
theorem enc_word {q : N97.Q} (hp : q.prop = true) : ∃ (x : Str) (r : List PyData), q.enc = .tuple (.str x :: r) ∧ (x = "table" ↔ q.isTab = true) := by
  cases q <;> first
    | (simp [N97.Q.prop, N97.Q.isQ, N97.Q.isC] at hp; done)
    | exact ⟨_, _, rfl, (by simp only [N97.Q.isTab]; try decide)⟩
theorem putK_old {t : Str} {v : V} {ks : List (Str × V)} (h : t ∈ ks.map (·.1)) : ∃ ks2 : List (Str × V), putK (ks.map entS) (Sum.inr t) v = ks2.map entS ∧ ks2.map (·.1) = ks.map (·.1) := by
  refine ⟨ks.map fun p => if p.1 = t then (p.1, v) else p, ?_, ?_⟩
  · unfold putK
    obtain ⟨p, hp, e⟩ := List.mem_map.mp h
    rw [if_pos (List.any_eq_true.mpr ⟨entS p, List.mem_map.mpr ⟨p, hp, rfl⟩, decide_eq_true (by rw [← e]; rfl)⟩), List.map_map, List.map_map]
    refine List.map_congr_left fun p _ => ?_
    show (if (Sum.inr p.1 : Key) = Sum.inr t then ((Sum.inr p.1 : Key), v) else entS p) = entS (if p.1 = t then (p.1, v) else p)
    by_cases h : p.1 = t
    · rw [if_pos h, if_pos (by rw [h])]
      rfl
    · rw [if_neg h, if_neg fun e => h (Sum.inr.inj e)]
  · rw [List.map_map]
    refine List.map_congr_left fun p _ => ?_
    show (if p.1 = t then (p.1, v) else p).1 = p.1
    by_cases h : p.1 = t
    · rw [if_pos h]
    · rw [if_neg h]
section
variable {P : Program} {w : World} {K : PySem.W.Frag} {mg : Str → Option Value} {base : Heap}
theorem ok_tab {f fU : Addr} {fd fdU : FuncData} (F : Fun K "tables" "tables" sTab f fd)
    (GU : FnOk P w K mg base CX0 1 fU fdU ["question"] spUnd) (bU : Binds K fdU ["question"] []) (kU : PySem.W.keepIn K (.ref fU) = true) (mU : mg "under" = some (.ref fU))
    (ml : mg "list" = none) (ms : mg "sorted" = none) : FnOk P w K mg base CX0 2 f fd ["question"] spTab := by
  refine F.ok scTab (fun vs H Q E h => ?_) (fun cdv A outer s H vs Q E hr h => ?_)
  · obtain ⟨a, q, rfl, _⟩ := h
    rfl
  obtain ⟨a, q, rfl, hp, hw, hsz, hT, qq⟩ := h
  refine ⟨_, pss_cons (ps_set (i := 1) scTab.nd rfl (.inl rfl) pe_dnewK)
    (pss_cons (ps_set (i := 2) scTab.nd rfl (.inl rfl) (pe_lst (pa_cons (pv 0) pa_nil)))
    (pss_cons (ps_while PassesOwn.never (pt_cmpR (op_neNil hr.units0) (pv 2) (pe_lst pa_nil) (nomark _))
      (pss_cons (ps_set (i := 3) scTab.nd rfl (.inl rfl) (pe_bm0 PySem.F.plainAttrs_list PySem.F.slot_list_pop PySem.F.type_list_pop mt_pop (pv 2)))
      (pss_cons (ps_if (pt_cmpR op_eq (pe_ix ix_tup (pv 3) pe_int (fun _ _ => rfl)) pe_str (nomark _))
        (pss_one (ps_dput (hu_of hr) (pv 1) (pe_ix ix_tup (pv 3) pe_int (fun _ _ => rfl)) pe_bl rfl)) pss_nil)
      (pss_one (ps_expr (pe_bm PySem.F.plainAttrs_list PySem.F.slot_list_extend PySem.F.type_list_extend mt_extend (pv 2) (pa_cons (pe_callTy call_list_of (by rfl) ml (by decide +kernel) (pa_cons (pe_call GU hr rfl mU kU bU .nil pass0 (pa_cons (pv 3) pa_nil)) pa_nil)) pa_nil)))))))
    (pss_one (ps_ret (pe_callB (call_sortedD rfl) (by rfl) ms (by decide +kernel) (pa_cons (pv 1) pa_nil)))))), ?_⟩
  intro d hd
  have s1 := same_new hd (.dK [])
  have hd1 : (upd H d (.dK [])) d = some (.dK []) := upd_same
  generalize upd H d (.dK []) = H1 at s1 hd1 ⊢
  refine ⟨_, rfl, one_le1, fun wl hwl => ?_⟩
  have s2 := same_new hwl (.lst [a])
  have hwlH : H wl = none := by
    cases e : H wl with
    | none => rfl
    | some o => have := s1 _ _ e; rw [hwl] at this; cases this
  have hdw : d ≠ wl := ne_of_none hd1 hwl
  have hd2 := s2 _ _ hd1
  have hw2 : (upd H1 wl (.lst [a])) wl = some (.lst [a]) := upd_same
  have sA := s1.trans s2
  generalize upd H1 wl (.lst [a]) = H2 at s2 hd2 hw2 sA ⊢
  refine ⟨fun m σ H3 => ∃ y3, σ = [some a, some (.ref d), some (.ref wl), y3] ∧ (∀ b o, b ≠ d → b ≠ wl → H2 b = some o → H3 b = some o) ∧
      ∃ (ws : List N97.Q) (ks : List (Str × V)), LT H3 wl (ws.map N97.Q.enc) ∧ H3 d = some (.dK (ks.map entS)) ∧ (ks.map (·.1)).Nodup ∧ (∀ k ∈ ks.map (·.1), k ∈ T5) ∧ (∀ x ∈ ws, x.prop = true ∧ WF x) ∧ (ws.map N97.Q.sz).sum = m ∧ m ≤ 1000000 ∧
        (ks.isEmpty && ws.all NoT) = NoT q,
    ⟨q.sz, none, rfl, fun _ _ _ _ e => e, [q], [], ⟨[a], hw2, .cons (hT.mono sA.fs) .nil⟩, hd2, List.nodup_nil, (fun k h => nomatch h), (fun x hx => by obtain rfl := List.mem_singleton.mp hx; exact ⟨hp, hw⟩), by simp, hsz, by simp⟩, fun m σ H3 p => ?_⟩
  obtain ⟨y3, rfl, r3, ws, ks, ⟨wx, hwx, twx⟩, hd3, hnd, hT5, hws, hm, hm1, heq⟩ := p
  have hwl3 : wx.length = ws.length := by rw [twx.len, List.length_map]
  refine ⟨_, rfl, Nat.zero_le _, fun e0 he0 => ?_⟩
  have s4 := same_new he0 (.lst [])
  have hw4 := s4 _ _ hwx
  have hd4 := s4 _ _ hd3
  refine ⟨wl, e0, wx, rfl, rfl, SqL.of hw4, SqL.of upd_same, _, rfl, ?_⟩
  have r4 : ∀ b o, b ≠ d → b ≠ wl → H2 b = some o → (upd H3 e0 (.lst [])) b = some o := fun b o h1 h2 e => s4 _ _ (r3 b o h1 h2 e)
  have t4 := twx.mono s4.fs
  generalize upd H3 e0 (.lst []) = H4 at hw4 hd4 r4 t4 ⊢
  have hk5 : ks.length ≤ 5 := by
    have := nodup_T5 hnd hT5
    rw [List.length_map] at this
    exact this
  rcases List.eq_nil_or_concat ws with rfl | ⟨ws', x, rfl⟩
  · cases t4
    refine iteF ?_
    -- the end
    refine ⟨_, rfl, d, _, ks.map (·.1), rfl, .inl hd4, by rw [List.map_map, List.map_map]; rfl, by rw [List.length_map]; omega, fun ys p hperm _ hp0 => ?_⟩
    refine qq p _ ys (fun b o e => ?_) upd_same ?_
    · have e1 := s1 _ _ e
      have hb1 : b ≠ d := ne_of_none e hd
      have hb2 : b ≠ wl := ne_of_none e hwlH
      have e4 := r4 b o hb1 hb2 (sA _ _ e)
      rw [upd_ne (ne_of_none e4 hp0)]
      exact e4
    · rw [← heq]
      have hl := hperm.length_eq
      rw [List.length_map] at hl
      cases ks with
      | nil =>
        cases ys with
        | nil => rfl
        | cons y r => cases hl
      | cons k r =>
        cases ys with
        | nil => cases hl
        | cons y r => rfl
  · rw [List.concat_eq_append] at *
    rw [List.map_append] at t4
    obtain ⟨fz, gz, rfl, tf, tg⟩ := t4.split1
    have ene : (!(fz ++ [gz]).isEmpty) = true := by cases fz <;> rfl
    refine iteTe ene ?_
    obtain ⟨hxp, hxw⟩ := hws x (List.mem_append_right _ (List.mem_singleton_self _))
    have hxs := sz_subs hxp hxw
    have hsum : (ws'.map N97.Q.sz).sum + x.sz = m := by
      rw [← hm, List.map_append, List.sum_append]
      simp
    refine ⟨fun σ' H' => ∃ y3, σ' = [some a, some (.ref d), some (.ref wl), y3] ∧ (∀ b o, b ≠ d → b ≠ wl → H2 b = some o → H' b = some o) ∧
      ∃ (ws : List N97.Q) (ks : List (Str × V)), LT H' wl (ws.map N97.Q.enc) ∧ H' d = some (.dK (ks.map entS)) ∧ (ks.map (·.1)).Nodup ∧ (∀ k ∈ ks.map (·.1), k ∈ T5) ∧ (∀ x ∈ ws, x.prop = true ∧ WF x) ∧ (ws.map N97.Q.sz).sum < m ∧
        (ks.isEmpty && ws.all NoT) = NoT q, fun σ' H' h => ?_, ?_⟩
    · obtain ⟨y3, h1, h2, ws2, ks2, h3, h4, h5, h6, h7, h8, h9⟩ := h
      exact ⟨_, h8, y3, h1, h2, ws2, ks2, h3, h4, h5, h6, h7, rfl, by omega, h9⟩
    refine ⟨_, rfl, .inl ⟨rfl, _, .inl (.inl hw4)⟩, wl, _, gz, rfl, rfl, hw4, by simp, ?_⟩
    rw [List.dropLast_concat]
    have hd5 : (upd H4 wl (.lst fz)) d = some (.dK (ks.map entS)) := by rw [upd_ne hdw]; exact hd4
    have f5 : FS H4 (upd H4 wl (.lst fz)) := fs_lst hw4
    have hw5 : (upd H4 wl (.lst fz)) wl = some (.lst fz) := upd_same
    have r5 : ∀ b o, b ≠ d → b ≠ wl → H2 b = some o → (upd H4 wl (.lst fz)) b = some o := fun b o h1 h2 e => by rw [upd_ne h2]; exact r4 b o h1 h2 e
    have tf5 := tf.mono f5
    have tg5 := tg.mono f5
    generalize upd H4 wl (.lst fz) = H5 at hd5 hw5 r5 tf5 tg5 ⊢
    obtain ⟨xw, xr, exe, hxt⟩ := enc_word hxp
    have tg5' := tg5
    rw [exe] at tg5
    obtain ⟨gt, gxs, rfl, fg, tgx⟩ := tg5.tupI
    cases tgx with
    | @cons v0 vr _ _ h0 tr =>
      obtain rfl := h0.strI
      refine ⟨_, rfl, gt, _, 0, _, rfl, rfl, fg.sq, atI0, rfl, _, rfl, ?_⟩
      apply with_rest (Ok := fun H6 => FS H5 H6 ∧ H6 wl = some (.lst fz) ∧ (∀ b o, b ≠ d → b ≠ wl → H2 b = some o → H6 b = some o) ∧
        ∃ ks2 : List (Str × V), H6 d = some (.dK (ks2.map entS)) ∧ (ks2.map (·.1)).Nodup ∧ (∀ k ∈ ks2.map (·.1), k ∈ T5) ∧ (ks2.isEmpty && (ws' ++ x.subs).all NoT) = NoT q)
      case m =>
        intro rest
        refine ite2 (fun c => ?_) (fun c => ?_)
        · have et : x.isTab = true := hxt.mp (V.str.inj (of_decide_eq_true c))
          obtain ⟨tn, rfl⟩ := isTab_tag et
          obtain ⟨gt2, y0, y1, e5, fg2, ty0, ty1⟩ := tg5'.i2
          cases e5
          obtain rfl := ty1.strI
          have htn : tn ∈ T5 := hxw
          refine ⟨_, rfl, _, rfl, gt, _, 1, _, rfl, rfl, fg2.sq, rfl, d, _, rfl, DPut.k (k := Sum.inr tn) hd5 (by rw [List.length_map, sizeLine_eq]; omega), ?_⟩
          have f6 : FS H5 (upd H5 d (.dK (putK (ks.map entS) (Sum.inr tn) (.bl true)))) := fs_dK hd5
          have hw6 : (upd H5 d (.dK (putK (ks.map entS) (Sum.inr tn) (.bl true)))) wl = some (.lst fz) := by rw [upd_ne hdw.symm]; exact hw5
          have r6 : ∀ b o, b ≠ d → b ≠ wl → H2 b = some o → (upd H5 d (.dK (putK (ks.map entS) (Sum.inr tn) (.bl true)))) b = some o := fun b o h1 h2 e => by rw [upd_ne h1]; exact r5 b o h1 h2 e
          have hd6 : (upd H5 d (.dK (putK (ks.map entS) (Sum.inr tn) (.bl true)))) d = some (.dK (putK (ks.map entS) (Sum.inr tn) (.bl true))) := upd_same
          generalize upd H5 d (.dK (putK (ks.map entS) (Sum.inr tn) (.bl true))) = H6 at f6 hw6 r6 hd6 ⊢
          have hq0 : NoT q = false := by
            rw [← heq, List.all_append]
            simp [NoT]
          refine rest H6 ⟨f6, hw6, r6, ?_⟩
          by_cases hin : tn ∈ ks.map (·.1)
          · obtain ⟨ks2, e1, e2⟩ := putK_old (v := .bl true) hin
            rw [e1] at hd6
            refine ⟨ks2, hd6, by rw [e2]; exact hnd, by rw [e2]; exact hT5, ?_⟩
            rw [hq0]
            cases ks2 with
            | nil =>
              rw [← e2] at hin
              cases hin
            | cons k r => rfl
          · rw [putK_new hin] at hd6
            refine ⟨_, hd6, ?_, fun k hk => ?_, ?_⟩
            · rw [List.map_append, List.nodup_append]
              refine ⟨hnd, by simp, fun a ha b hb e => ?_⟩
              obtain rfl : b = tn := by simpa using hb
              subst e
              exact hin ha
            · rw [List.map_append] at hk
              rcases List.mem_append.mp hk with hk | hk
              · exact hT5 k hk
              · obtain rfl : k = tn := by simpa using hk
                exact htn
            · rw [hq0]
              cases ks <;> rfl
        · refine rest _ ⟨.refl _, hw5, r5, ks, hd5, hnd, hT5, ?_⟩
          have et : x.isTab = false := by
            cases h : x.isTab with
            | false => rfl
            | true => exact absurd (decide_eq_true (congrArg V.str (hxt.mpr h))) c
          rw [← heq, List.all_append, List.all_append, List.all_cons, List.all_nil, Bool.and_true, noT_subs hxp hxw, et]
          rfl
      case r =>
        rintro H6 ⟨f6, hw6, r6, ks2, hd6, hnd2, hT52, heq2⟩
        refine ⟨_, rfl, .inl ⟨rfl, _, .inl (.inl hw6)⟩, _, rfl, _, x, rfl, hxp, hxw, tg5'.mono f6, fun r H7 s7 t7 => ?_⟩
        obtain ⟨rt, ry, rfl, fr, try_⟩ := t7.tupI
        refine ⟨rt, ry, rfl, .inr fr.sq, fun l hl => ?_⟩
        have s8 := s7.trans (same_new hl (.lst ry))
        have hw8 := s8 _ _ hw6
        have hd8 := s8 _ _ hd6
        have lry : ry.length = x.subs.length := by rw [try_.len, List.length_map]
        have hsw := wf_subs hxp hxw
        have lws : fz.length = ws'.length := by rw [tf5.len, List.length_map]
        have b1 := sz_len fun q hq => hws q (List.mem_append_left _ hq)
        have b2 := sz_len hsw
        refine ⟨wl, l, fz, ry, rfl, rfl, hw8, upd_same, by rw [lry, lws, sizeLine_eq]; omega, ?_⟩
        have f89 : FS (upd H7 l (.lst ry)) (upd (upd H7 l (.lst ry)) wl (.lst (fz ++ ry))) := fs_lst hw8
        refine ⟨_, rfl, fun b o h1 h2 e => ?_, ws' ++ x.subs, ks2, ⟨_, upd_same, ?_⟩, by rw [upd_ne hdw]; exact hd8, hnd2, hT52, fun z hz => ?_, ?_, heq2⟩
        · rw [upd_ne h2]
          exact s8 _ _ (r6 b o h1 h2 e)
        · rw [List.map_append]
          exact (((tf5.mono f6).mono s8.fs).app (try_.mono (same_new hl _).fs)).mono f89
        · rcases List.mem_append.mp hz with hz | hz
          · exact hws z (List.mem_append_left _ hz)
          · exact hsw z hz
        · rw [List.map_append, List.sum_append]
          omega
theorem ok_evn1 {n : Nat} {f fU fT : Addr} {fd fdU fdT : FuncData} (F : Fun K "is_even" "is_even" sEvn f fd)
    (GE : FnOk P w K mg base CX0 (n + 2) f fd ["question"] (spEvn n)) (bE : Binds K fd ["question"] []) (mE : mg "is_even" = some (.ref f))
    (GU : FnOk P w K mg base CX0 1 fU fdU ["question"] spUnd) (bU : Binds K fdU ["question"] []) (kU : PySem.W.keepIn K (.ref fU) = true) (mU : mg "under" = some (.ref fU))
    (GT : FnOk P w K mg base CX0 2 fT fdT ["question"] spTab) (bT : Binds K fdT ["question"] []) (kT : PySem.W.keepIn K (.ref fT) = true) (mT : mg "tables" = some (.ref fT))
    (ma : mg "all" = none) : FnOk P w K mg base CX0 (n + 3) f fd ["question"] (spEvn (n + 1)) := by
  refine F.ok scEvn (fun vs H Q E h => ?_) (fun cdv A outer s H vs Q E hr h => ?_)
  · obtain ⟨a, q, rfl, _⟩ := h
    rfl
  obtain ⟨a, q, rfl, hp, hw, hdp, hsz, hT, qq⟩ := h
  refine ⟨_, pss_cons (ps_if (PW.pt (pw_and (pt_in2 (pe_ix ix_tup (pv 0) pe_int (fun _ _ => rfl)) (mono_ix K 0 0)) (pw_and1 (pt_cmpR (op_neNil hr.units0) (pe_call GT (hr.mono (by omega)) rfl mT kT bT .nil pass0 (pa_cons (pv 0) pa_nil)) (pe_lst pa_nil) (nomark _)))))
      (pss_one (ps_ret pe_bl)) pss_nil)
    (pss_cons (ps_if (PW.pt (pw_and (pt_cmpR op_eq (pe_ix ix_tup (pv 0) pe_int (fun _ _ => rfl)) pe_str (nomark _)) (pw_and1 (pt_cmpR (op_neNil hr.units0) (pe_call GT (hr.mono (by omega)) rfl mT kT bT .nil pass0 (pa_cons (pe_ix ix_tup (pv 0) pe_int (fun _ _ => rfl)) pa_nil)) (pe_lst pa_nil) (nomark _)))))
      (pss_one (ps_ret pe_bl)) pss_nil)
    (pss_one (ps_ret (pe_callB (cr_all rfl) (by rfl) ma (by decide +kernel) (pa_cons
      (pe_lc (own := [("part", 1)]) (g := gName 1) (tt := tYes) rfl scEvn.nd (pi_tup (pe_call GU (hr.mono (by omega)) rfl mU kU bU .nil pass0 (pa_cons (pv 0) pa_nil))) (blkOk_by (N := nEvn) (sc := defScope sEvn) (by decide +kernel))
          (fun _ _ _ _ _ => pg_name (i := 1) scEvn.nd rfl (.inl rfl)) (fun _ _ _ _ _ => pts_nil)
          (fun _ _ _ _ _ => pe_call GE hr rfl mE F.kp bE .nil pass0 (pa_cons (pv 1) pa_nil))) pa_nil))))), ?_⟩
  obtain ⟨xw, xr, exe, hxt⟩ := enc_word hp
  -- the end: all parts
  have fin : ∀ H1, Same H H1 → q.oddOk = true → evenQ q = q.subs.all evenQ := fun H1 s1 h => by
    rw [even_subs hp hw, h, Bool.true_and]
  have hT0 := hT
  rw [exe] at hT
  obtain ⟨t, xs, rfl, f0, t0⟩ := hT.tupI
  cases t0 with
  | @cons v0 vr _ _ h0 tr =>
    obtain rfl := h0.strI
    have hwd : (xw = "one" ∨ xw = "at" → ∃ p, q.oddPart = some p ∧ NoT q = NoT p) ∧ (xw = "let" → ∃ x p b, q = .let_ x p b) ∧ (xw ≠ "one" → xw ≠ "at" → xw ≠ "let" → q.oddPart = none) ∧ (xw = "let" → xw ≠ "one" ∧ xw ≠ "at") := by
      cases q <;> first
        | (simp [N97.Q.prop, N97.Q.isQ, N97.Q.isC] at hp; done)
        | (have e := PyData.str.inj (List.cons.inj (PyData.tuple.inj exe)).1
           subst e
           refine ⟨fun h => ?_, fun h => ?_, fun h1 h2 h3 => ?_, fun h => ?_⟩
           · first | exact ⟨_, rfl, rfl⟩ | exact absurd h (by decide)
           · first | exact ⟨_, _, _, rfl⟩ | exact absurd h (by decide)
           · first | rfl | exact absurd rfl h1 | exact absurd rfl h2 | exact absurd rfl h3
           · first | exact ⟨by decide, by decide⟩ | exact absurd h (by decide))
    apply with_rest (Ok := fun H1 => Same H H1 ∧ (xw = "one" ∨ xw = "at" → ∃ p, q.oddPart = some p ∧ NoT p = true))
    case m =>
      intro rest
      refine ⟨_, rfl, t, _, 0, _, rfl, rfl, f0.sq, atI0, xw, rfl, fun H1 s1 => ?_⟩
      refine ite2 (fun c => ?_) (fun c => iteF (rest H1 ⟨s1, fun h => absurd (by rcases h with rfl | rfl <;> simp) c⟩))
      have hoa : xw = "one" ∨ xw = "at" := by simpa using c
      obtain ⟨p, e1, e2⟩ := hwd.1 hoa
      refine ⟨_, rfl, _, q, rfl, hp, hw, hsz, hT0.mono s1.fs, fun pl H2 ys s2 hl he => ⟨Nat.zero_le _, fun e0 he0 => ?_⟩⟩
      have s3 := same_new he0 (.lst [])
      refine ⟨pl, e0, _, rfl, rfl, SqL.of (s3 _ _ hl), SqL.of upd_same, _, rfl, ?_⟩
      have s4 := s1.trans (s2.trans s3)
      have eL : (ys.map V.str).isEmpty = NoT p := by
        rw [← e2, ← he]
        cases ys <;> rfl
      generalize upd H2 e0 (.lst []) = H3 at s4 ⊢
      cases hN : NoT p with
      | true =>
        rw [hN] at eL
        have : (!(ys.map V.str).isEmpty) = false := by rw [eL]; rfl
        exact iteFe this (rest H3 ⟨s4, fun _ => ⟨p, e1, hN⟩⟩)
      | false =>
        rw [hN] at eL
        have : (!(ys.map V.str).isEmpty) = true := by rw [eL]; rfl
        refine iteTe this ?_
        have e3 : evenQ q = false := by rw [even_subs hp hw]; unfold N97.Q.oddOk; rw [e1]; show (NoT p && _) = false; rw [hN, Bool.false_and]
        rw [e3] at qq
        exact qq H3 s4
    case r =>
      rintro H1 ⟨s1, hoa⟩
      apply with_rest (Ok := fun H2 => Same H H2 ∧ q.oddOk = true)
      case m =>
        intro rest
        refine ⟨_, rfl, t, _, 0, _, rfl, rfl, (f0.mono s1.fs).sq, atI0, rfl, _, rfl, ?_⟩
        refine ite2 (fun c => ?_) (fun c => ?_)
        · have hlet : xw = "let" := V.str.inj (of_decide_eq_true c)
          obtain ⟨x, p, b, rfl⟩ := hwd.2.1 hlet
          obtain ⟨t', y0, y1, y2, y3, e5, g0, _, _, ty2, _⟩ := hT0.i4
          cases e5
          obtain ⟨⟨hpp, hpw⟩, _⟩ := hw
          have hps : p.sz ≤ 1000000 := by
            have : (N97.Q.let_ x p b).sz = p.sz + b.sz + 1 := rfl
            omega
          refine ⟨_, rfl, t, _, 2, _, rfl, rfl, (g0.mono s1.fs).sq, rfl, _, p, rfl, hpp, hpw, hps, ty2.mono s1.fs, fun pl H2 ys s2 hl he => ⟨Nat.zero_le _, fun e0 he0 => ?_⟩⟩
          have s3 := same_new he0 (.lst [])
          refine ⟨pl, e0, _, rfl, rfl, SqL.of (s3 _ _ hl), SqL.of upd_same, _, rfl, ?_⟩
          have s4 := s1.trans (s2.trans s3)
          have eL : (ys.map V.str).isEmpty = NoT p := by
            rw [← he]
            cases ys <;> rfl
          generalize upd H2 e0 (.lst []) = H3 at s4 ⊢
          cases hN : NoT p with
          | true =>
            rw [hN] at eL
            have : (!(ys.map V.str).isEmpty) = false := by rw [eL]; rfl
            exact iteFe this (rest H3 ⟨s4, hN⟩)
          | false =>
            rw [hN] at eL
            have : (!(ys.map V.str).isEmpty) = true := by rw [eL]; rfl
            refine iteTe this ?_
            have e3 : evenQ (.let_ x p b) = false := by show (NoT p && _) = false; rw [hN, Bool.false_and]
            rw [e3] at qq
            exact qq H3 s4
        · refine iteF (rest H1 ⟨s1, ?_⟩)
          have hnl : xw ≠ "let" := fun e => c (decide_eq_true (congrArg V.str e))
          by_cases h1 : xw = "one" ∨ xw = "at"
          · obtain ⟨p, e1, e2⟩ := hoa h1
            unfold N97.Q.oddOk
            rw [e1]
            exact e2
          · rw [not_or] at h1
            unfold N97.Q.oddOk
            rw [hwd.2.2.1 h1.1 h1.2 hnl]
      case r =>
        rintro H2 ⟨s2, hodd⟩
        refine ⟨_, rfl, _, q, rfl, hp, hw, hT0.mono s2.fs, fun r H3 s3 t3 => ?_⟩
        obtain ⟨rt, ry, rfl, fr, try_⟩ := t3.tupI
        have lry : ry.length = q.subs.length := by rw [try_.len, List.length_map]
        refine ⟨rt, rfl, ⟨ry, fr.sq⟩, fun D hD => ?_⟩
        have hls : q.subs.length ≤ 1000000 := by
          have h1 := sz_len (wf_subs hp hw)
          have h2 := sz_subs hp hw
          omega
        refine lc_tup (tt := tYes) (xs := ry) (fun i H4 => Same H3 H4 ∧ H4 D = some (.lst (((q.subs.take i).map evenQ).map V.bl))) ⟨same_new hD _, upd_same⟩ (fun i H4 _ p => (fr.mono p.1.fs).sq) (fun i x H4 hx p => ?_) (fun H4 p => ?_)
        · obtain ⟨s4, hA⟩ := p
          obtain ⟨d, ed, td⟩ := try_.get hx
          rw [List.getElem?_map] at ed
          obtain ⟨sq, es, rfl⟩ := Option.map_eq_some_iff.mp ed
          have hsm := List.mem_of_getElem? es
          obtain ⟨h1, h2⟩ := wf_subs hp hw sq hsm
          have h3 := dep_subs hp hw sq hsm
          have h4 := sz_mem hsm
          have h5 := sz_subs hp hw
          refine ⟨rfl, _, rfl, x, sq, rfl, h1, h2, by omega, by omega, td.mono s4.fs, fun H5 s5 => ?_⟩
          have etake : q.subs.take (i + 1) = q.subs.take i ++ [sq] := by rw [List.take_add_one, es]; rfl
          refine ⟨_, s5 _ _ hA, ?_, fun b o e => ?_, ?_⟩
          · rw [List.length_map, List.length_map, List.length_take, sizeLine_eq]
            omega
          · rw [upd_ne (ne_of_none e hD)]
            exact s5 _ _ (s4 _ _ e)
          · rw [upd_same, etake, List.map_append, List.map_append]
            rfl
        · obtain ⟨s4, hA⟩ := p
          rw [lry, List.take_length] at hA
          refine ⟨D, q.subs.map evenQ, rfl, SqL.of hA, ?_⟩
          have e : (q.subs.map evenQ).all id = evenQ q := by
            rw [fin H2 s2 hodd, List.all_map]
            rfl
          rw [e]
          exact qq H4 (s2.trans (s3.trans s4))
theorem prop_dep {q : N97.Q} (h : q.prop = true) : 0 < q.dep := dep_pos q (by
  rw [N97.Q.prop, Bool.or_eq_true] at h
  exact h)
theorem ok_evn {f fU fT : Addr} {fd fdU fdT : FuncData} (F : Fun K "is_even" "is_even" sEvn f fd) (bE : Binds K fd ["question"] []) (mE : mg "is_even" = some (.ref f))
    (GU : FnOk P w K mg base CX0 1 fU fdU ["question"] spUnd) (bU : Binds K fdU ["question"] []) (kU : PySem.W.keepIn K (.ref fU) = true) (mU : mg "under" = some (.ref fU))
    (GT : FnOk P w K mg base CX0 2 fT fdT ["question"] spTab) (bT : Binds K fdT ["question"] []) (kT : PySem.W.keepIn K (.ref fT) = true) (mT : mg "tables" = some (.ref fT))
    (ma : mg "all" = none) : ∀ n, FnOk P w K mg base CX0 (n + 2) f fd ["question"] (spEvn n)
  | 0 => by
    refine ⟨fun vs H Q E h => ?_, fun A outer s H args us vs Q E _ _ _ _ h => ?_⟩
    all_goals
      obtain ⟨_, q, _, h1, _, h2, _⟩ := h
      exact absurd (prop_dep h1) (by omega)
  | n + 1 => ok_evn1 F (ok_evn F bE mE GU bU kU mU GT bT kT mT ma n) bE mE GU bU kU mU GT bT kT mT ma
end
end N97

/-! KaWi -/
set_option maxRecDepth 100000
set_option maxHeartbeats 8000000
namespace N97
open PySem PySem.Spec PyProof.Rows L2
theorem inV_strs (x : Str) : ∀ ns : List Str, inV (.str x) (ns.map V.str) = decide (x ∈ ns)
  | [] => rfl
  | n :: r => by
    show (eqV (.str n) (.str x) || inV (.str x) (r.map V.str)) = _
    rw [inV_strs x r]
    have : eqV (.str n) (.str x) = decide (x = n) := by
      show (n == x) = decide (x = n)
      by_cases h : n = x
      · subst h; simp
      · have h' : x ≠ n := fun e => h e.symm
        simp [h, h']
    rw [this]
    by_cases h : x = n <;> simp [h]
theorem flat_strs : ∀ ns : List Str, (ns.map V.str).all flatV = true
  | [] => rfl
  | n :: r => by
    show (flatV (.str n) && (r.map V.str).all flatV) = true
    rw [flat_strs r]
    rfl
section
variable {P : Program} {w : World} {K : PySem.W.Frag} {mg : Str → Option Value} {base : Heap}
theorem ok_deg1 {n : Nat} {f : Addr} {fd : FuncData} (F : Fun K "degree" "degree" sDeg f fd)
    (GE : FnOk P w K mg base CX0 n f fd ["question", "names"] (spDeg n)) (bE : Binds K fd ["question", "names"] []) (mE : mg "degree" = some (.ref f))
    (mi : mg "int" = none) (mm : mg "max" = none) : FnOk P w K mg base CX0 (n + 1) f fd ["question", "names"] (spDeg (n + 1)) := by
  refine F.ok scDeg (fun vs H Q E h => ?_) (fun cdv A outer s H vs Q E hr h => ?_)
  · obtain ⟨a, pn, q, ns, rfl, _⟩ := h
    rfl
  obtain ⟨a, pn, q, ns, rfl, hp, hw, hdp, hT, hN, qq⟩ := h
  refine ⟨_, pss_cons (ps_set (i := 2) scDeg.nd rfl (.inl rfl) (pe_ix ix_tup (pv 0) pe_int (fun _ _ => rfl)))
    (pss_cons (ps_if (pt_cmpR op_eq (pv 2) pe_str (nomark _)) (pss_one (ps_ret (pe_callTy call_int1 (by rfl) mi (by decide +kernel) (pa_cons (pe_cmpR op_in_seq (pe_ix ix_tup (pv 0) pe_int (fun _ _ => rfl)) (pv 1) (by rfl)) pa_nil)))) pss_nil)
    (pss_cons (ps_if (pt_cmpR op_eq (pv 2) pe_str (nomark _)) (pss_one (ps_ret (pe_callB (call_max2 rfl) (by rfl) mm (by decide +kernel) (pa_cons (pe_call GE hr rfl mE F.kp bE .nil pass0 (pa_cons (pe_ix ix_tup (pv 0) pe_int (fun _ _ => rfl)) (pa_cons (pv 1) pa_nil)))
        (pa_cons (pe_call GE hr rfl mE F.kp bE .nil pass0 (pa_cons (pe_ix ix_tup (pv 0) pe_int (fun _ _ => rfl)) (pa_cons (pv 1) pa_nil))) pa_nil))))) pss_nil)
    (pss_cons (ps_if (pt_in2 (pv 2) (mono_var 2)) (pss_one (ps_ret (pe_call GE hr rfl mE F.kp bE .nil pass0 (pa_cons (pe_ix ix_tup (pv 0) pe_int (fun _ _ => rfl)) (pa_cons (pv 1) pa_nil))))) pss_nil)
    (pss_cons (ps_if (pt_cmpR op_eq (pv 2) pe_str (nomark _)) (pss_one (ps_ret (pe_op op_add (pe_call GE hr rfl mE F.kp bE .nil pass0 (pa_cons (pe_ix ix_tup (pv 0) pe_int (fun _ _ => rfl)) (pa_cons (pv 1) pa_nil))) (pe_call GE hr rfl mE F.kp bE .nil pass0 (pa_cons (pe_ix ix_tup (pv 0) pe_int (fun _ _ => rfl)) (pa_cons (pv 1) pa_nil)))))) pss_nil)
    (pss_cons (ps_if (pt_cmpR op_eq (pv 2) pe_str (nomark _)) (pss_one (ps_ret (pe_call GE hr rfl mE F.kp bE .nil pass0 (pa_cons (pe_ix ix_tup (pv 0) pe_int (fun _ _ => rfl)) (pa_cons (pv 1) pa_nil))))) pss_nil)
    (pss_one (ps_ret pe_int))))))), ?_⟩
  cases q with
  | table tn =>
    obtain ⟨t, y0, y1, rfl, f0, ty0, ty1⟩ := hT.i2
    obtain rfl := ty0.strI
    obtain rfl := ty1.strI
    refine ⟨_, rfl, t, _, 0, _, rfl, rfl, f0.sq, rfl, ?_⟩
    refine ⟨_, rfl, rfl, _, rfl, iteT ?_⟩
    refine ⟨_, rfl, t, _, 1, _, rfl, rfl, f0.sq, rfl, _, rfl, pn, _, rfl, .inl (SqL.of hN), rfl, flat_strs ns, .inr ⟨_, rfl, ?_⟩⟩
    have e : (V.int (if (if false = true then !inV (.str tn) (ns.map V.str) else inV (.str tn) (ns.map V.str)) = true then 1 else 0)) = .int ((degQ ns (.table tn) : Nat) : Int) := by
      rw [if_neg Bool.false_ne_true, inV_strs]
      show V.int (if decide (tn ∈ ns) = true then 1 else 0) = .int (((if tn ∈ ns then 1 else 0 : Nat)) : Int)
      by_cases h : tn ∈ ns <;> simp [h]
    rw [e]
    exact qq H (.refl H)
  | both b c =>
    obtain ⟨t, y0, y1, y2, rfl, f0, ty0, ty1, ty2⟩ := hT.i3
    obtain rfl := ty0.strI
    refine ⟨_, rfl, t, _, 0, _, rfl, rfl, f0.sq, rfl, ?_⟩
    obtain ⟨⟨hb, hbw⟩, hc, hcw⟩ := hw
    have hd' : b.dep ≤ n ∧ c.dep ≤ n := by simp only [N97.Q.dep] at hdp; omega
    refine ⟨_, rfl, rfl, _, rfl, iteF ?_⟩
    refine ⟨_, rfl, rfl, _, rfl, iteT ?_⟩
    refine ⟨_, rfl, t, _, 1, _, rfl, rfl, f0.sq, rfl, _, rfl, y1, pn, b, ns, rfl, hb, hbw, hd'.1, ty1, hN, fun H1 s1 => ?_⟩
    refine ⟨_, rfl, t, _, 2, _, rfl, rfl, (f0.mono s1.fs).sq, rfl, _, rfl, y2, pn, c, ns, rfl, hc, hcw, hd'.2, ty2.mono s1.fs, s1 _ _ hN, fun H2 s2 => ?_⟩
    refine ⟨_, _, rfl, ?_⟩
    have e : (if ((degQ ns c : Nat) : Int) > ((degQ ns b : Nat) : Int) then ((degQ ns c : Nat) : Int) else ((degQ ns b : Nat) : Int)) = ((degQ ns (.both b c) : Nat) : Int) := by
      show _ = ((max (degQ ns b) (degQ ns c) : Nat) : Int)
      split <;> omega
    rw [e]
    exact qq H2 (s1.trans s2)
  | times m b =>
    obtain ⟨t, y0, y1, y2, rfl, f0, ty0, ty1, ty2⟩ := hT.i3
    obtain rfl := ty0.strI
    refine ⟨_, rfl, t, _, 0, _, rfl, rfl, f0.sq, rfl, ?_⟩
    obtain ⟨hb, hbw⟩ := hw
    have hd' : b.dep ≤ n := Nat.le_of_succ_le_succ hdp
    refine ⟨_, rfl, rfl, _, rfl, iteF ?_⟩
    refine ⟨_, rfl, rfl, _, rfl, iteF ?_⟩
    refine ⟨_, rfl, _, rfl, fun H1 s1 => iteT ?_⟩
    exact ⟨_, rfl, t, _, 2, _, rfl, rfl, (f0.mono s1.fs).sq, rfl, _, rfl, y2, pn, b, ns, rfl, hb, hbw, hd', ty2.mono s1.fs, s1 _ _ hN, fun H2 s2 => qq H2 (s1.trans s2)⟩
  | when_ m b =>
    obtain ⟨t, y0, y1, y2, rfl, f0, ty0, ty1, ty2⟩ := hT.i3
    obtain rfl := ty0.strI
    refine ⟨_, rfl, t, _, 0, _, rfl, rfl, f0.sq, rfl, ?_⟩
    obtain ⟨_, hb, hbw⟩ := hw
    have hd' : b.dep ≤ n := by simp only [N97.Q.dep] at hdp; omega
    refine ⟨_, rfl, rfl, _, rfl, iteF ?_⟩
    refine ⟨_, rfl, rfl, _, rfl, iteF ?_⟩
    refine ⟨_, rfl, _, rfl, fun H1 s1 => iteT ?_⟩
    exact ⟨_, rfl, t, _, 2, _, rfl, rfl, (f0.mono s1.fs).sq, rfl, _, rfl, y2, pn, b, ns, rfl, hb, hbw, hd', ty2.mono s1.fs, s1 _ _ hN, fun H2 s2 => qq H2 (s1.trans s2)⟩
  | for_ x b c =>
    obtain ⟨t, y0, y1, y2, y3, rfl, f0, ty0, ty1, ty2, ty3⟩ := hT.i4
    obtain rfl := ty0.strI
    refine ⟨_, rfl, t, _, 0, _, rfl, rfl, f0.sq, rfl, ?_⟩
    obtain ⟨⟨hb, hbw⟩, hc, hcw⟩ := hw
    have hd' : b.dep ≤ n ∧ c.dep ≤ n := by simp only [N97.Q.dep] at hdp; omega
    refine ⟨_, rfl, rfl, _, rfl, iteF ?_⟩
    refine ⟨_, rfl, rfl, _, rfl, iteF ?_⟩
    refine ⟨_, rfl, _, rfl, fun H1 s1 => iteF ?_⟩
    refine ⟨_, rfl, rfl, _, rfl, iteT ?_⟩
    refine ⟨_, rfl, t, _, 2, _, rfl, rfl, (f0.mono s1.fs).sq, rfl, _, rfl, y2, pn, b, ns, rfl, hb, hbw, hd'.1, ty2.mono s1.fs, s1 _ _ hN, fun H2 s2' => ?_⟩
    have s2 := s1.trans s2'
    refine ⟨_, rfl, t, _, 3, _, rfl, rfl, (f0.mono s2.fs).sq, rfl, _, rfl, y3, pn, c, ns, rfl, hc, hcw, hd'.2, ty3.mono s2.fs, s2 _ _ hN, fun H3 s3 => ?_⟩
    refine ⟨_, _, rfl, rfl, ?_⟩
    have e : ((degQ ns b : Nat) : Int) + ((degQ ns c : Nat) : Int) = ((degQ ns (.for_ x b c) : Nat) : Int) := by
      show _ = ((degQ ns b + degQ ns c : Nat) : Int)
      omega
    show Q (V.int (((degQ ns b : Nat) : Int) + ((degQ ns c : Nat) : Int))) H3
    rw [e]
    exact qq H3 (s2.trans s3)
  | let_ x b c =>
    obtain ⟨t, y0, y1, y2, y3, rfl, f0, ty0, ty1, ty2, ty3⟩ := hT.i4
    obtain rfl := ty0.strI
    refine ⟨_, rfl, t, _, 0, _, rfl, rfl, f0.sq, rfl, ?_⟩
    obtain ⟨_, hc, hcw⟩ := hw
    have hd' : c.dep ≤ n := by simp only [N97.Q.dep] at hdp; omega
    refine ⟨_, rfl, rfl, _, rfl, iteF ?_⟩
    refine ⟨_, rfl, rfl, _, rfl, iteF ?_⟩
    refine ⟨_, rfl, _, rfl, fun H1 s1 => iteF ?_⟩
    refine ⟨_, rfl, rfl, _, rfl, iteF ?_⟩
    refine ⟨_, rfl, rfl, _, rfl, iteT ?_⟩
    exact ⟨_, rfl, t, _, 3, _, rfl, rfl, (f0.mono s1.fs).sq, rfl, _, rfl, y3, pn, c, ns, rfl, hc, hcw, hd', ty3.mono s1.fs, s1 _ _ hN, fun H2 s2 => qq H2 (s1.trans s2)⟩
  | fnil => simp [N97.Q.prop, N97.Q.isQ, N97.Q.isC] at hp
  | fcons _ _ _ => simp [N97.Q.prop, N97.Q.isQ, N97.Q.isC] at hp
  | _ =>
    obtain ⟨t, xs, rfl, f0, t0⟩ := hT.tupI
    cases t0 with
    | cons h0 tr =>
    obtain rfl := h0.strI
    refine ⟨_, rfl, t, _, 0, _, rfl, rfl, f0.sq, atI0, ?_⟩
    refine ⟨_, rfl, rfl, _, rfl, iteF ?_⟩
    refine ⟨_, rfl, rfl, _, rfl, iteF ?_⟩
    refine ⟨_, rfl, _, rfl, fun H1 s1 => iteF ?_⟩
    refine ⟨_, rfl, rfl, _, rfl, iteF ?_⟩
    refine ⟨_, rfl, rfl, _, rfl, iteF ?_⟩
    exact qq H1 s1
theorem ok_deg {f : Addr} {fd : FuncData} (F : Fun K "degree" "degree" sDeg f fd) (bE : Binds K fd ["question", "names"] []) (mE : mg "degree" = some (.ref f))
    (mi : mg "int" = none) (mm : mg "max" = none) : ∀ n, FnOk P w K mg base CX0 n f fd ["question", "names"] (spDeg n)
  | 0 => by
    refine ⟨fun vs H Q E h => ?_, fun A outer s H args us vs Q E _ _ _ _ h => ?_⟩
    all_goals
      obtain ⟨_, _, q, _, _, h1, _, h2, _⟩ := h
      exact absurd (prop_dep h1) (by omega)
  | n + 1 => ok_deg1 F (ok_deg F bE mE mi mm n) bE mE mi mm
end
end N97

/-! KaG3 -/
set_option maxRecDepth 100000
set_option maxHeartbeats 1000000
namespace N97
open PySem PySem.W PyProof.Rows

def Mode.cl : Mode → Bool
  | .clm => true
  | _ => false
theorem kdOf_T5 {t : Str} {k : Kd} (h : kdOf t = some k) : t ∈ T5 := by
  unfold kdOf at h
  repeat' split at h
  all_goals first | (next e => subst e; decide) | cases h
theorem wf_mk : ∀ {l : List (Str × Q)}, (∀ p ∈ l, p.2.prop = true ∧ WF p.2) → WF (.ofF l)
  | [], _ => trivial
  | (f, q) :: r, h => ⟨(h _ (List.mem_cons_self ..)).1, (h _ (List.mem_cons_self ..)).2, wf_mk fun p hp => h p (List.mem_cons_of_mem _ hp)⟩
def GW (m : Mode) (q : Q) : Prop := (m.cl = false → q.isQ = true) ∧ (m.cl = true → q.isC = true) ∧ WF q
theorem GW.q {m : Mode} {q : Q} (h : GW m q) (e : m.cl = false := by rfl) : q.prop = true ∧ WF q := ⟨by rw [Q.prop, h.1 e]; rfl, h.2.2⟩
theorem GW.c {m : Mode} {q : Q} (h : GW m q) (e : m.cl = true := by rfl) : q.prop = true ∧ WF q := ⟨by rw [Q.prop, h.2.1 e, Bool.or_true], h.2.2⟩
theorem GW.mkQ {m : Mode} {q : Q} (e : m.cl = false) (h : q.isQ = true) (w : WF q) : GW m q := ⟨fun _ => h, fun z => absurd (e.symm.trans z) (by decide), w⟩
theorem GW.mkC {m : Mode} {q : Q} (e : m.cl = true) (h : q.isC = true) (w : WF q) : GW m q := ⟨fun z => absurd (e.symm.trans z) (by decide), fun _ => h, w⟩
theorem Held.wf {Γ : Ctx} {k : Kd} {q : Q} (h : Held Γ k q) : q.isQ = true ∧ WF q := by
  rcases h with ⟨_, _, rfl⟩ | ⟨_, _, _, _, _, rfl⟩
  · exact ⟨rfl, trivial⟩
  · exact ⟨rfl, rfl, trivial⟩
theorem Gen.wf {m : Mode} {Γ : Ctx} {f : Nat} {q : Q} (g : Gen m Γ f q) : GW m q := by
  induction g with
  | held h => exact .mkQ rfl h.wf.1 h.wf.2
  | sbag _ ih => exact .mkQ rfl (ih.1 rfl) ih.2.2
  | slvl _ _ i1 i2 =>
    refine .mkQ rfl rfl ⟨⟨_, rfl, by simp⟩, wf_mk fun p hp => ?_⟩
    simp only [List.mem_cons, List.not_mem_nil, or_false] at hp
    rcases hp with rfl | rfl
    · exact i1.q
    · exact i2.q
  | sdeep _ _ _ _ i1 i2 i3 i4 =>
    refine .mkQ rfl rfl ⟨⟨_, rfl, by simp⟩, wf_mk fun p hp => ?_⟩
    simp only [List.mem_cons, List.not_mem_nil, or_false] at hp
    rcases hp with rfl | rfl | rfl | rfl
    · exact i1.q
    · exact i2.q
    · exact i3.q
    · exact i4.q
  | sadd _ _ i1 i2 => exact .mkQ rfl rfl ⟨i1.q, i2.q⟩
  | smul _ _ i1 i2 => exact .mkQ rfl rfl ⟨i1.q, i2.q⟩
  | snum _ => exact .mkQ rfl rfl trivial
  | sword => exact .mkQ rfl rfl trivial
  | arm _ _ ih => exact .mkQ rfl (ih.1 rfl) ih.2.2
  | armA _ ih =>
    refine .mkQ rfl rfl ⟨rfl, ⟨_, rfl, by simp⟩, wf_mk fun p hp => ?_⟩
    simp only [List.mem_cons, List.not_mem_nil, or_false] at hp
    rcases hp with rfl | rfl
    · exact ih.q
    · exact ⟨rfl, by show ("t" : Str) ∈ T5; decide⟩
  | armL _ ih => exact .mkQ rfl rfl ⟨⟨rfl, by show ("u" : Str) ∈ T5; decide⟩, ih.q⟩
  | cnot _ ih => exact .mkC rfl rfl ih.c
  | cand _ _ i1 i2 => exact .mkC rfl rfl ⟨i1.c, i2.c⟩
  | cor _ _ i1 i2 => exact .mkC rfl rfl ⟨i1.c, i2.c⟩
  | csame _ _ _ i1 i2 => exact .mkC rfl rfl ⟨i1.q, i2.q⟩
  | cunder _ _ i1 i2 => exact .mkC rfl rfl ⟨i1.q, i2.q⟩
  | ovar _ => exact .mkQ rfl rfl trivial
  | oat _ => exact .mkQ rfl rfl ⟨rfl, trivial⟩
  | otab h => exact .mkQ rfl rfl (kdOf_T5 h)
  | oask _ _ ih => exact .mkQ rfl (ih.1 rfl) ih.2.2
  | asml _ _ ih => exact .mkQ rfl (ih.1 rfl) ih.2.2
  | aheld h => exact .mkQ rfl h.wf.1 h.wf.2
  | atab h => exact .mkQ rfl rfl (kdOf_T5 h)
  | aone0 _ ih => exact .mkQ rfl rfl ih.q
  | anone => exact .mkQ rfl rfl trivial
  | aboth _ _ i1 i2 => exact .mkQ rfl rfl ⟨i1.q, i2.q⟩
  | atimes _ _ ih => exact .mkQ rfl rfl ih.q
  | awhen _ _ i1 i2 => exact .mkQ rfl rfl ⟨i1.c, i2.q⟩
  | aone _ ih => exact .mkQ rfl rfl ih.q
  | ataken h1 h2 _ h4 _ ih =>
    refine .mkQ rfl rfl ⟨rfl, ⟨_, rfl, by omega⟩, wf_mk fun p hp => ?_⟩
    rcases h2 p hp with e | e
    · rw [e]
      exact ⟨rfl, trivial⟩
    · rw [e]
      exact ih.q
  | alet _ _ _ i1 i2 => exact .mkQ rfl rfl ⟨i1.q, i2.q⟩
  | afor _ _ i1 i2 => exact .mkQ rfl rfl ⟨i1.q, i2.q⟩

/-! ### size -/
def SZ (f : Nat) (k : Kd) : Nat := if f = 0 then 3 ^ k.rank else 243 * 6 ^ f
def Mode.szl (f : Nat) : Mode → Nat
  | .ask k => SZ f k
  | .sml k => SZ f k
  | .ovr k => SZ f (.bag k)
  | .clm => 15 * 3 ^ f
  | .arm _ => 6
def RK (Γ : Ctx) : Prop := ∀ p ∈ Γ, p.2.rank ≤ 5
def Mode.rk5 : Mode → Prop
  | .ask k => k.rank ≤ 5
  | .sml k => k.rank ≤ 5
  | _ => True
theorem look_in {x : Str} {k : Kd} : ∀ {Γ : Ctx}, look x Γ = some k → (x, k) ∈ Γ
  | p :: r, h => by
    by_cases e : p.1 = x
    · rw [look, if_pos e] at h
      cases h
      rw [← e]
      exact List.mem_cons_self ..
    · rw [look, if_neg e] at h
      exact List.mem_cons_of_mem _ (look_in h)
theorem Gen.ovr_rank {Γ : Ctx} {f : Nat} {k : Kd} {q : Q} (g : Gen (.ovr k) Γ f q) (h : RK Γ) : k.rank ≤ 4 := by
  cases g with
  | ovar e => exact Nat.le_of_succ_le_succ (h _ (look_in e))
  | oat _ => decide
  | otab e => exact kdOf_rank e
  | oask e _ => exact kdOf_rank e
theorem pow3 {r : Nat} (h : r ≤ 5) : 3 ^ r ≤ 243 := Nat.pow_le_pow_right (n := 3) (by decide) h
theorem SZ_le {f : Nat} {k : Kd} (h : k.rank ≤ 5) : SZ f k ≤ 243 * 6 ^ f := by
  unfold SZ
  split
  · next e => subst e; have := pow3 h; omega
  · exact Nat.le_refl _
theorem SZ_succ (f : Nat) (k : Kd) : SZ (f + 1) k = 6 * (243 * 6 ^ f) := by
  unfold SZ
  rw [if_neg (Nat.succ_ne_zero f), Nat.pow_succ]
  omega
theorem SZ_pos {f : Nat} {k : Kd} : 3 ≤ SZ f k := by
  unfold SZ
  have := k.rank_pos
  split
  · exact Nat.le_trans (by decide : 3 ≤ 3 ^ 1) (Nat.pow_le_pow_right (n := 3) (by decide) this)
  · have := Nat.pow_pos (n := f) (show 0 < 6 by decide)
    omega
theorem Held.sz {Γ : Ctx} {k : Kd} {q : Q} (h : Held Γ k q) : q.sz ≤ 2 := by
  rcases h with ⟨_, _, rfl⟩ | ⟨_, _, _, _, _, rfl⟩ <;> simp [Q.sz]
theorem szF_le {n m : Nat} {l : List (Str × Q)} {x : Str} {q : Q} (h : ∀ p ∈ l, p.2 = .num 1 ∨ p = (x, q)) (hn : (l.map (·.1)).Nodup) (hl : l.length ≤ m) (hq : q.sz ≤ n) : (Q.ofF l).sz ≤ n + m := by
  induction l generalizing m with
  | nil => exact Nat.zero_le _
  | cons p r ih =>
    obtain ⟨f, p2⟩ := p
    rw [List.map_cons, List.nodup_cons] at hn
    rw [List.length_cons] at hl
    show p2.sz + (Q.ofF r).sz ≤ _
    rcases h (f, p2) (List.mem_cons_self ..) with e | e
    · have h1 := ih (m := m - 1) (fun p hp => h p (List.mem_cons_of_mem _ hp)) hn.2 (by omega)
      have e' : p2 = .num 1 := e
      rw [e']
      show 1 + _ ≤ _
      omega
    · cases e
      have all1 : ∀ (r : List (Str × Q)), (∀ p ∈ r, p.2 = .num 1) → (Q.ofF r).sz = r.length := by
        intro r
        induction r with
        | nil => intro _; rfl
        | cons p r ih =>
          intro h
          obtain ⟨f, p2⟩ := p
          have e' : p2 = .num 1 := h _ (List.mem_cons_self ..)
          show p2.sz + (Q.ofF r).sz = _
          rw [ih fun p hp => h p (List.mem_cons_of_mem _ hp), e', List.length_cons]
          show 1 + _ = _
          omega
      have h2 := all1 r fun p hp => by
        rcases h p (List.mem_cons_of_mem _ hp) with e | e
        · exact e
        · exact absurd (List.mem_map.mpr ⟨p, hp, by rw [e]⟩) hn.1
      rw [h2]
      omega
theorem Gen.sz {m : Mode} {Γ : Ctx} {f : Nat} {q : Q} (g : Gen m Γ f q) : RK Γ → m.rk5 → q.sz ≤ m.szl f := by
  induction g with
  | held h => intro _ _; exact Nat.le_trans h.sz (Nat.le_trans (by decide) SZ_pos)
  | @sbag Γ f k q _ ih =>
    intro h1 h2
    have h3 := ih h1 h2
    simp only [Mode.szl] at h3 ⊢
    cases f with
    | zero => exact h3
    | succ f =>
      have := SZ_le (f := f) (k := .bag k) h2
      rw [SZ_succ]
      simp only [Nat.add_sub_cancel] at h3
      omega
  | @slvl Γ f q1 q2 _ _ i1 i2 =>
    intro h1 h2
    have h3 := i1 h1 (by show 1 ≤ 5; decide)
    have h4 := i2 h1 (by show 1 ≤ 5; decide)
    simp only [Mode.szl] at h3 h4 ⊢
    show q1.sz + (q2.sz + 0) + 1 ≤ _
    cases f with
    | zero =>
      have e1 : SZ 0 .word = 3 := rfl
      have e2 : SZ 0 .num = 3 := rfl
      have e3 : SZ 0 .level = 9 := rfl
      simp only [Nat.zero_sub] at h3 h4
      omega
    | succ f =>
      have b1 := SZ_le (f := f) (k := .word) (by decide)
      have b2 := SZ_le (f := f) (k := .num) (by decide)
      rw [SZ_succ]
      simp only [Nat.add_sub_cancel] at h3 h4
      have := Nat.pow_pos (n := f) (show 0 < 6 by decide)
      omega
  | @sdeep Γ f q1 q2 q3 q4 _ _ _ _ i1 i2 i3 i4 =>
    intro h1 h2
    have h3 := i1 h1 (by show 1 ≤ 5; decide)
    have h4 := i2 h1 (by show 1 ≤ 5; decide)
    have h5 := i3 h1 (by show 2 ≤ 5; decide)
    have h6 := i4 h1 (by show 1 ≤ 5; decide)
    simp only [Mode.szl] at h3 h4 h5 h6 ⊢
    show q1.sz + (q2.sz + (q3.sz + (q4.sz + 0))) + 1 ≤ _
    cases f with
    | zero =>
      have e1 : SZ 0 .word = 3 := rfl
      have e2 : SZ 0 .num = 3 := rfl
      have e3 : SZ 0 .deep = 81 := rfl
      have e4 : SZ 0 (.bag .num) = 9 := rfl
      simp only [Nat.zero_sub] at h3 h4 h5 h6
      omega
    | succ f =>
      have b1 := SZ_le (f := f) (k := .word) (by decide)
      have b2 := SZ_le (f := f) (k := .num) (by decide)
      have b3 := SZ_le (f := f) (k := .bag .num) (by decide)
      rw [SZ_succ]
      simp only [Nat.add_sub_cancel] at h3 h4 h5 h6
      have := Nat.pow_pos (n := f) (show 0 < 6 by decide)
      omega
  | @sadd Γ f a b _ _ i1 i2 =>
    intro h1 h2
    have h3 := i1 h1 h2
    have h4 := i2 h1 h2
    have b1 := SZ_le (f := f) (k := .num) (by decide)
    simp only [Mode.szl, Q.sz] at h3 h4 ⊢
    rw [SZ_succ]
    have := Nat.pow_pos (n := f) (show 0 < 6 by decide)
    omega
  | @smul Γ f a b _ _ i1 i2 =>
    intro h1 h2
    have h3 := i1 h1 h2
    have h4 := i2 h1 h2
    have b1 := SZ_le (f := f) (k := .num) (by decide)
    simp only [Mode.szl, Q.sz] at h3 h4 ⊢
    rw [SZ_succ]
    have := Nat.pow_pos (n := f) (show 0 < 6 by decide)
    omega
  | snum _ => intro _ _; exact Nat.le_trans (by simp [Q.sz]) SZ_pos
  | sword => intro _ _; exact Nat.le_trans (by simp [Q.sz]) SZ_pos
  | arm hk _ ih =>
    intro h1 h2
    have h3 := ih h1 (by rcases hk with rfl | rfl <;> (show 1 ≤ 5; decide))
    rcases hk with rfl | rfl <;> exact Nat.le_trans h3 (by decide)
  | @armA Γ a _ ih =>
    intro h1 h2
    have h3 := ih h1 (by show 1 ≤ 5; decide)
    have e2 : SZ 0 .num = 3 := rfl
    simp only [Mode.szl] at h3 ⊢
    show a.sz + (1 + 0) + 1 + 1 ≤ 6
    omega
  | @armL Γ a _ ih =>
    intro h1 h2
    have h3 := ih h1 (by show 1 ≤ 5; decide)
    have e2 : SZ 0 .num = 3 := rfl
    simp only [Mode.szl] at h3 ⊢
    show 1 + a.sz + 1 ≤ 6
    omega
  | @cnot Γ f a _ ih =>
    intro h1 h2
    have h3 := ih h1 h2
    simp only [Mode.szl, Q.sz] at h3 ⊢
    rw [Nat.pow_succ]
    have := Nat.pow_pos (n := f) (show 0 < 3 by decide)
    omega
  | @cand Γ f a b _ _ i1 i2 =>
    intro h1 h2
    have h3 := i1 h1 h2
    have h4 := i2 h1 h2
    simp only [Mode.szl, Q.sz] at h3 h4 ⊢
    rw [Nat.pow_succ]
    have := Nat.pow_pos (n := f) (show 0 < 3 by decide)
    omega
  | @cor Γ f a b _ _ i1 i2 =>
    intro h1 h2
    have h3 := i1 h1 h2
    have h4 := i2 h1 h2
    simp only [Mode.szl, Q.sz] at h3 h4 ⊢
    rw [Nat.pow_succ]
    have := Nat.pow_pos (n := f) (show 0 < 3 by decide)
    omega
  | @csame Γ f k a b hk _ _ i1 i2 =>
    intro h1 h2
    have h3 := i1 h1 trivial
    have h4 := i2 h1 (by rcases hk with rfl | rfl <;> (show 1 ≤ 5; decide))
    have e2 : SZ 0 k = 3 := by rcases hk with rfl | rfl <;> rfl
    simp only [Mode.szl, Q.sz] at h3 h4 ⊢
    have := Nat.pow_pos (n := f) (show 0 < 3 by decide)
    omega
  | @cunder Γ f a b _ _ i1 i2 =>
    intro h1 h2
    have h3 := i1 h1 trivial
    have h4 := i2 h1 (by show 1 ≤ 5; decide)
    have e2 : SZ 0 .num = 3 := rfl
    simp only [Mode.szl, Q.sz] at h3 h4 ⊢
    have := Nat.pow_pos (n := f) (show 0 < 3 by decide)
    omega
  | ovar _ => intro _ _; exact Nat.le_trans (by simp [Q.sz]) SZ_pos
  | oat _ => intro _ _; exact Nat.le_trans (by simp [Q.sz]) SZ_pos
  | otab _ => intro _ _; exact Nat.le_trans (by simp [Q.sz]) SZ_pos
  | @oask Γ f k t q hk _ ih =>
    intro h1 h2
    have hr : (Kd.bag k).rank ≤ 5 := Nat.succ_le_succ (kdOf_rank hk)
    have h3 := ih h1 hr
    have b1 := SZ_le (f := f) hr
    simp only [Mode.szl] at h3 ⊢
    rw [SZ_succ]
    omega
  | asml _ _ ih => intro h1 h2; exact ih h1 h2
  | aheld h => intro _ _; exact Nat.le_trans h.sz (Nat.le_trans (by decide) SZ_pos)
  | atab _ => intro _ _; exact Nat.le_trans (by simp [Q.sz]) SZ_pos
  | @aone0 Γ f k q _ ih =>
    intro h1 h2
    have h2' : k.rank + 1 ≤ 5 := h2
    have h3 := ih h1 (by show k.rank ≤ 5; omega)
    have e1 : SZ 0 k = 3 ^ k.rank := rfl
    have e2 := Nat.pow_pos (n := k.rank) (show 0 < 3 by decide)
    simp only [Mode.szl, Q.sz] at h3 ⊢
    cases f with
    | zero =>
      have e3 : SZ 0 (.bag k) = 3 ^ k.rank * 3 := rfl
      omega
    | succ f =>
      rw [SZ_succ]
      have := pow3 (show k.rank ≤ 5 by omega)
      have := Nat.pow_pos (n := f) (show 0 < 6 by decide)
      omega
  | anone => intro _ _; exact Nat.le_trans (by show 1 ≤ 3; decide) SZ_pos
  | @aboth Γ f k a b _ _ i1 i2 =>
    intro h1 h2
    have h3 := i1 h1 h2
    have h4 := i2 h1 h2
    have b1 := SZ_le (f := f) (k := .bag k) h2
    simp only [Mode.szl, Q.sz] at h3 h4 ⊢
    rw [SZ_succ]
    have := Nat.pow_pos (n := f) (show 0 < 6 by decide)
    omega
  | @atimes Γ f k m a _ _ ih =>
    intro h1 h2
    have h3 := ih h1 h2
    have b1 := SZ_le (f := f) (k := .bag k) h2
    simp only [Mode.szl, Q.sz] at h3 ⊢
    rw [SZ_succ]
    have := Nat.pow_pos (n := f) (show 0 < 6 by decide)
    omega
  | @awhen Γ f k t a _ _ i1 i2 =>
    intro h1 h2
    have h3 := i1 h1 trivial
    have h4 := i2 h1 h2
    have b1 := SZ_le (f := f) (k := .bag k) h2
    simp only [Mode.szl, Q.sz] at h3 h4 ⊢
    rw [SZ_succ]
    have := Nat.pow_pos (n := f) (show 0 < 6 by decide)
    omega
  | @aone Γ f k q _ ih =>
    intro h1 h2
    have h2' : k.rank + 1 ≤ 5 := h2
    have h3 := ih h1 (by show k.rank ≤ 5; omega)
    have b1 := SZ_le (f := f) (k := k) (by omega)
    simp only [Mode.szl, Q.sz] at h3 ⊢
    rw [SZ_succ]
    have := Nat.pow_pos (n := f) (show 0 < 6 by decide)
    omega
  | @ataken Γ f k q x fs _ h6 hn hl _ ih =>
    intro h1 h2
    have h3 := ih h1 h2
    have b1 := SZ_le (f := f) (k := .bag k) h2
    have h7 := szF_le h6 hn hl (Nat.le_refl q.sz)
    simp only [Mode.szl] at h3 ⊢
    show (Q.ofF fs).sz + 1 + 1 ≤ _
    rw [SZ_succ]
    have := Nat.pow_pos (n := f) (show 0 < 6 by decide)
    omega
  | @alet Γ f k o x b c ho _ _ i1 i2 =>
    intro h1 h2
    have hor : o.rank ≤ 5 := by rcases ho with rfl | rfl <;> decide
    have h3 := i1 h1 hor
    have h4 := i2 (fun p hp => by
      rcases List.mem_cons.mp hp with rfl | hp
      · exact hor
      · exact h1 p hp) h2
    have b0 := SZ_le (f := f - 1) (k := o) hor
    have b1 := SZ_le (f := f) (k := .bag k) h2
    have b2 : 6 ^ (f - 1) ≤ 6 ^ f := Nat.pow_le_pow_right (by decide) (by omega)
    simp only [Mode.szl, Q.sz] at h3 h4 ⊢
    rw [SZ_succ]
    have := Nat.pow_pos (n := f) (show 0 < 6 by decide)
    omega
  | @afor Γ f k o x b c gb _ i1 i2 =>
    intro h1 h2
    have hor : o.rank ≤ 4 := gb.ovr_rank h1
    have h3 := i1 h1 trivial
    have h4 := i2 (fun p hp => by
      rcases List.mem_cons.mp hp with rfl | hp
      · show o.rank ≤ 5
        omega
      · exact h1 p hp) h2
    have b0 := SZ_le (f := f) (k := .bag o) (Nat.succ_le_succ hor)
    have b1 := SZ_le (f := f) (k := .bag k) h2
    simp only [Mode.szl, Q.sz] at h3 h4 ⊢
    rw [SZ_succ]
    have := Nat.pow_pos (n := f) (show 0 < 6 by decide)
    omega

/-! ### even questions -/
theorem Held.noT {Γ : Ctx} {k : Kd} {q : Q} (h : Held Γ k q) : NoT q = true := by
  rcases h with ⟨_, _, rfl⟩ | ⟨_, _, _, _, _, rfl⟩ <;> rfl
/-- a small question about a number or a word asks no table; an even claim asks none -/
theorem Gen.noT {m : Mode} {Γ : Ctx} {f : Nat} {q : Q} (g : Gen m Γ f q) : match m with
    | .sml k => k = .num ∨ k = .word → NoT q = true
    | .arm _ => evenQ q = true → NoT q = true
    | .clm => evenQ q = true → NoT q = true
    | _ => True := by
  induction g with
  | held h => intro _; exact h.noT
  | sbag _ _ => intro h; rcases h with h | h <;> cases h
  | slvl _ _ _ _ => intro h; rcases h with h | h <;> cases h
  | sdeep _ _ _ _ _ _ _ _ => intro h; rcases h with h | h <;> cases h
  | sadd _ _ i1 i2 => intro h; show (NoT _ && NoT _) = true; rw [i1 h, i2 h]; rfl
  | smul _ _ i1 i2 => intro h; show (NoT _ && NoT _) = true; rw [i1 h, i2 h]; rfl
  | snum _ => intro _; rfl
  | sword => intro _; rfl
  | arm hk _ ih => intro _; exact ih hk
  | armA _ _ => intro h; simp [evenQ, NoT, Q.ofF] at h
  | armL _ _ => intro h; simp [evenQ, NoT] at h
  | cnot _ ih => intro h; exact ih h
  | cand _ _ i1 i2 =>
    intro h
    simp only [evenQ, Bool.and_eq_true] at h
    show (NoT _ && NoT _) = true
    rw [i1 h.1, i2 h.2]; rfl
  | cor _ _ i1 i2 =>
    intro h
    simp only [evenQ, Bool.and_eq_true] at h
    show (NoT _ && NoT _) = true
    rw [i1 h.1, i2 h.2]; rfl
  | csame hk _ _ i1 i2 =>
    intro h
    simp only [evenQ, Bool.and_eq_true] at h
    show (NoT _ && NoT _) = true
    rw [i1 h.1, i2 hk]; rfl
  | cunder _ _ i1 i2 =>
    intro h
    simp only [evenQ, Bool.and_eq_true] at h
    show (NoT _ && NoT _) = true
    rw [i1 h.1, i2 (.inl rfl)]; rfl
  | _ => trivial
end N97

/-! KaG4 -/
set_option maxRecDepth 100000
set_option maxHeartbeats 1000000
namespace N97
open PySem PySem.W PyProof.Rows

/-! ### bounds -/
def TB : Nat → Nat → Nat
  | 0, b => b
  | f + 1, b => TB f b + TB f (TB f b) + 30
theorem TB_ge : ∀ (f b : Nat), b ≤ TB f b
  | 0, b => Nat.le_refl b
  | f + 1, b => by
    have := TB_ge f b
    show b ≤ TB f b + _ + 30
    omega
theorem TB_mono : ∀ (f : Nat) {b c : Nat}, b ≤ c → TB f b ≤ TB f c
  | 0, _, _, h => h
  | f + 1, b, c, h => by
    have h1 := TB_mono f h
    have h2 := TB_mono f h1
    show TB f b + TB f (TB f b) + 30 ≤ TB f c + TB f (TB f c) + 30
    omega
theorem TB_succ (f b : Nat) : TB (f + 1) b = TB f b + TB f (TB f b) + 30 := rfl
theorem TB_le (f b : Nat) : TB f b ≤ TB (f + 1) b := by rw [TB_succ]; omega
theorem TB_pred (f b : Nat) : TB (f - 1) b ≤ TB f b := by
  cases f with
  | zero => exact Nat.le_refl _
  | succ f => exact TB_le f b
def Wd : Nat → Nat
  | 0 => 15 | 1 => 225 | 2 => 3375 | _ => 759375
theorem Wd_ge (f : Nat) : 15 ≤ Wd f := by
  match f with
  | 0 => decide
  | 1 => decide
  | 2 => decide
  | n + 3 => show 15 ≤ 759375; decide
def IW (f M : Nat) : Nat := if f ≤ 2 then M else M * M
def SW (f M : Nat) : Nat := if f ≤ 1 then M else M * M
theorem sq_ge {M : Nat} (h : 2 ≤ M) : 2 * M ≤ M * M := Nat.mul_le_mul_right M h
theorem IW_ge {f M : Nat} (h : 2 ≤ M) : M ≤ IW f M := by
  have := sq_ge h
  unfold IW
  split <;> omega
theorem IW_le {f M : Nat} (h : 2 ≤ M) : IW f M ≤ IW (f + 1) M := by
  have := sq_ge h
  unfold IW
  split <;> split <;> omega
theorem SW_ge {f M : Nat} (h : 2 ≤ M) : M ≤ SW f M := by
  have := sq_ge h
  unfold SW
  split <;> omega
theorem SW_IW {f M : Nat} (h : 2 ≤ M) : SW f M = IW (f + 1) M := by
  unfold SW IW
  by_cases e : f ≤ 1
  · rw [if_pos e, if_pos (by omega)]
  · rw [if_neg e, if_neg (by omega)]
def EnvT (M b : Nat) (Γ : Ctx) (ρ : Env) : Prop := ∀ x k, look x Γ = some k → ∃ v, ρ x = some v ∧ VOk M b k v
def StoT (S : Sto) : Prop := ∀ t k, kdOf t = some k → BOk 15 2 120 k (S t)
theorem EnvT.mono {M b M' b' : Nat} {Γ : Ctx} {ρ : Env} (h : EnvT M b Γ ρ) (hM : M ≤ M') (hb : b ≤ b') : EnvT M' b' Γ ρ := fun x k e => let ⟨v, h1, h2⟩ := h x k e; ⟨v, h1, h2.mono hM hb⟩
theorem EnvT.put {M b : Nat} {Γ : Ctx} {ρ : Env} {x : Str} {o : Kd} {v : Val} (h : EnvT M b Γ ρ) (hv : VOk M b o v) : EnvT M b ((x, o) :: Γ) (put ρ x v) := fun y k e => by
  unfold N97.put
  by_cases hy : y = x
  · subst hy
    rw [if_pos rfl]
    have : k = o := by
      rw [look, if_pos rfl] at e
      exact (Option.some.inj e).symm
    subst this
    exact ⟨v, rfl, hv⟩
  · rw [if_neg hy]
    rw [look, if_neg (fun z => hy z.symm)] at e
    exact h y k e
theorem VOk.tnum' {m b : Nat} {v : Val} (h : VOk m b (.bag .num) v) : ∃ ts : List (Int × Int), v = .bag (.ofR (ts.map fun p => (.num p.1, p.2))) ∧ ts.length ≤ m ∧ ∀ p ∈ ts, p.1.natAbs < 2 ^ b ∧ p.2.natAbs < 2 ^ b := by
  obtain ⟨l, rfl, h1, h2⟩ := h
  refine ⟨l.map fun p => (p.1.numOf, p.2), ?_, by rw [List.length_map]; exact h1, fun p hp => ?_⟩
  · rw [List.map_map]
    have : l.map ((fun p : Int × Int => (Val.num p.1, p.2)) ∘ fun p : Val × Int => (p.1.numOf, p.2)) = l := by
      refine (List.map_congr_left fun p hp => ?_).trans (List.map_id l)
      obtain ⟨⟨n, e, _⟩, _⟩ := h2 p hp
      obtain ⟨v, c⟩ := p
      have e' : v = Val.num n := e
      subst e'
      rfl
    rw [this]
  · obtain ⟨p', hp', rfl⟩ := List.mem_map.mp hp
    obtain ⟨⟨n, e, hn⟩, hc⟩ := h2 p' hp'
    exact ⟨by show p'.1.numOf.natAbs < _; rw [e]; exact hn, hc⟩
theorem VOk.ofT {m b : Nat} {ts : List (Int × Int)} (h1 : ts.length ≤ m) (h2 : ∀ p ∈ ts, p.1.natAbs < 2 ^ b ∧ p.2.natAbs < 2 ^ b) : VOk m b (.bag .num) (.bag (.ofR (ts.map fun p => (.num p.1, p.2)))) := by
  refine ⟨_, rfl, by rw [List.length_map]; exact h1, fun p hp => ?_⟩
  obtain ⟨q, hq, rfl⟩ := List.mem_map.mp hp
  exact ⟨⟨q.1, rfl, (h2 q hq).1⟩, (h2 q hq).2⟩
/-- a row's value, field by field -/
theorem VOk.row {M b : Nat} {r : Kd} {v : Val} (h : VOk M b r v) (hf : r.fields ≠ []) : ∃ l : List (Str × Val), v = .row (.ofF l) ∧ l.map (·.1) = r.fields.map (·.1) ∧ ∀ p ∈ r.fields, VOk M b p.2 (getF p.1 l) := by
  cases r with
  | level =>
    obtain ⟨s, n, rfl, hn⟩ := h
    refine ⟨_, rfl, rfl, fun p hp => ?_⟩
    simp only [Kd.fields, List.mem_cons, List.not_mem_nil, or_false] at hp
    rcases hp with rfl | rfl
    · exact ⟨s, rfl⟩
    · exact ⟨n, rfl, hn⟩
  | deep =>
    obtain ⟨n, s, z, ts, rfl, h1, h2, h3⟩ := h
    refine ⟨_, rfl, rfl, fun p hp => ?_⟩
    simp only [Kd.fields, List.mem_cons, List.not_mem_nil, or_false] at hp
    rcases hp with rfl | rfl | rfl | rfl
    · exact ⟨n, rfl, h2⟩
    · exact ⟨s, rfl⟩
    · exact VOk.ofT h1 h3
    · exact ⟨z, rfl⟩
  | _ => exact absurd rfl hf
theorem fields_nodup (r : Kd) : (r.fields.map (·.1)).Nodup := by cases r <;> simp only [Kd.fields, List.map_cons, List.map_nil] <;> decide
theorem fields_len (r : Kd) : r.fields.length ≤ 4 := by cases r <;> simp [Kd.fields]
theorem Held.ok {M b : Nat} {Γ : Ctx} {ρ : Env} {S : Sto} {k : Kd} {q : Q} (h : Held Γ k q) (e : EnvT M b Γ ρ) : Safe q ρ S ∧ VOk M b k (eval q ρ S) := by
  rcases h with ⟨x, h1, rfl⟩ | ⟨x, r, f, h1, h2, rfl⟩
  · obtain ⟨v, e1, e2⟩ := e x k h1
    refine ⟨⟨v, e1⟩, ?_⟩
    show VOk M b k ((ρ x).getD .nil)
    rw [e1]
    exact e2
  · obtain ⟨v, e1, e2⟩ := e x r h1
    have hne : r.fields ≠ [] := fun z => by rw [z] at h2; cases h2
    obtain ⟨l, e3, e4, e5⟩ := e2.row hne
    have e6 : eval (.var x) ρ S = .row (.ofF l) := by
      show (ρ x).getD .nil = _
      rw [e1]
      exact e3
    refine ⟨⟨rfl, ⟨v, e1⟩, l, e6, ?_, ?_, ?_⟩, ?_⟩
    · rw [e4]
      exact fields_nodup r
    · rw [e4]
      exact List.mem_map.mpr ⟨(f, k), h2, rfl⟩
    · have h3 := congrArg List.length e4
      rw [List.length_map, List.length_map] at h3
      have := fields_len r
      omega
    · show VOk M b k (getF f (eval (.var x) ρ S).fields)
      rw [e6, show (Val.row (.ofF l)).fields = l from Val.spF_ofF l]
      exact e5 (f, k) h2
theorem VOk.knd {m b : Nat} {k : Kd} {v : Val} (h : VOk m b k v) (hm : m ≤ 16777216) (hk : k.rank ≤ 8) : Knd v := ⟨k, hk, h.hasK hm⟩
theorem mulok_of {a b : Nat} {i j : Int} (h1 : i.natAbs < 2 ^ a) (h2 : j.natAbs < 2 ^ b) (h : a + b ≤ 900000) : MulOk i j := by
  have l1 : i.natAbs.log2 ≤ a := by
    by_cases z : i.natAbs = 0
    · rw [z]; exact Nat.zero_le _
    · exact Nat.le_of_lt ((Nat.log2_lt z).mpr h1)
  have l2 : j.natAbs.log2 ≤ b := by
    by_cases z : j.natAbs = 0
    · rw [z]; exact Nat.zero_le _
    · exact Nat.le_of_lt ((Nat.log2_lt z).mpr h2)
  unfold MulOk
  omega
theorem mul_lt {a b : Nat} {i j : Int} (h1 : i.natAbs < 2 ^ a) (h2 : j.natAbs < 2 ^ b) : (i * j).natAbs < 2 ^ (a + b) := by
  rw [Int.natAbs_mul, Nat.pow_add]
  exact Nat.mul_lt_mul'' h1 h2
theorem add_lt {a : Nat} {i j : Int} (h1 : i.natAbs < 2 ^ a) (h2 : j.natAbs < 2 ^ a) : (i + j).natAbs < 2 ^ (a + 1) := by
  have := Int.natAbs_add_le i j
  rw [Nat.pow_succ]
  omega
theorem scale_len' (m : Int) (l : List (Val × Int)) : (scale m l).length = l.length := by rw [scale, List.length_map]
theorem scale_1 (l : List (Val × Int)) : scale 1 l = l := by
  unfold scale
  refine (List.map_congr_left fun p _ => ?_).trans (List.map_id l)
  show (p.1, 1 * p.2) = p
  rw [Int.one_mul]
theorem BOk.rows' {W m b : Nat} {k : Kd} {v : Val} (h : BOk W m b k v) : ∃ l, v = .bag (.ofR l) ∧ v.rows = l ∧ l.length ≤ W ∧ ∀ p ∈ l, VOk m b k p.1 ∧ p.2.natAbs < 2 ^ b := by
  obtain ⟨l, e, h1, h2⟩ := h
  exact ⟨l, e, by rw [e]; exact Val.spR_ofR l, h1, h2⟩
theorem flat_len {α : Type} {g : α → List (Val × Int)} {n : Nat} : ∀ {l : List α}, (∀ p ∈ l, (g p).length ≤ n) → (l.flatMap g).length ≤ l.length * n
  | [], _ => by simp
  | p :: r, h => by
    rw [List.flatMap_cons, List.length_append, List.length_cons, Nat.add_mul, Nat.one_mul]
    have h1 := h p (List.mem_cons_self ..)
    have h2 := flat_len (l := r) fun q hq => h q (List.mem_cons_of_mem _ hq)
    omega
theorem eval_ofF' (ρ : Env) (S : Sto) : ∀ l : List (Str × Q), eval (.ofF l) ρ S = Val.ofF (l.map fun p => (p.1, eval p.2 ρ S))
  | [] => rfl
  | (f, q) :: r => by
    show Val.fcons f (eval q ρ S) (eval (.ofF r) ρ S) = _
    rw [eval_ofF' ρ S r]
    rfl
theorem safe_mk {ρ : Env} {S : Sto} : ∀ {l : List (Str × Q)}, (∀ p ∈ l, Safe p.2 ρ S) → Safe (.ofF l) ρ S
  | [], _ => trivial
  | (f, q) :: r, h => ⟨h _ (List.mem_cons_self ..), safe_mk fun p hp => h p (List.mem_cons_of_mem _ hp)⟩
theorem even_mem {l : List (Str × Q)} {p : Str × Q} (h : evenQ (.ofF l) = true) (hp : p ∈ l) : evenQ p.2 = true := by
  rw [even_ofF, List.all_eq_true] at h
  exact h p.2 (List.mem_map.mpr ⟨p, hp, rfl⟩)
theorem noT_mem {l : List (Str × Q)} {p : Str × Q} (h : NoT (.ofF l) = true) (hp : p ∈ l) : NoT p.2 = true := by
  rw [noT_ofF, List.all_eq_true] at h
  exact h p.2 (List.mem_map.mpr ⟨p, hp, rfl⟩)
theorem getF_of {x : Str} {v : Val} : ∀ {l : List (Str × Val)}, (l.map (·.1)).Nodup → (x, v) ∈ l → getF x l = v
  | [], _, h => nomatch h
  | p :: r, hn, h => by
    rw [List.map_cons, List.nodup_cons] at hn
    unfold getF
    by_cases e : p.1 = x
    · rw [List.find?_cons_of_pos (by simpa using e)]
      rcases List.mem_cons.mp h with h | h
      · rw [← h]
      · exact absurd (List.mem_map.mpr ⟨(x, v), h, e.symm⟩) hn.1
    · rw [List.find?_cons_of_neg (by simpa using e)]
      rcases List.mem_cons.mp h with h | h
      · exact absurd (by rw [← h]) e
      · exact getF_of hn.2 h
def MB (f M : Nat) : Prop := 2 ≤ M ∧ M ≤ 15 ∧ (f = 3 → M * M ≤ 15)
/-- what an even question's answer is like -/
def GT (m : Mode) (Γ : Ctx) (f : Nat) (q : Q) : Prop := RK Γ → evenQ q = true → ∀ (M b : Nat) (ρ : Env) (S : Sto), MB f M → 120 ≤ b → EnvT M b Γ ρ → StoT S → match m with
  | .ask (.bag k) => k.rank ≤ 4 → f ≤ 3 → TB f b ≤ 100000 → Safe q ρ S ∧ BOk (Wd f) (IW f M) (TB f b) k (eval q ρ S) ∧ (NoT q = true → f ≤ 1 → BOk (if f = 0 then M else M * M) M (TB f b) k (eval q ρ S))
  | .ask k => k.rank ≤ 5 → f ≤ 1 → TB f b ≤ 100000 → NoT q = true → Safe q ρ S ∧ VOk M (TB f b) k (eval q ρ S)
  | .sml k => k.rank ≤ 5 → f ≤ 2 → TB f b ≤ 100000 → NoT q = true → Safe q ρ S ∧ VOk (SW f M) (TB f b) k (eval q ρ S)
  | .arm k => b ≤ 100000 → NoT q = true → Safe q ρ S ∧ VOk M b k (eval q ρ S)
  | .clm => f ≤ 1 → b ≤ 100000 → NoT q = true → Safe q ρ S
  | .ovr k => f ≤ 2 → TB f b ≤ 100000 → Safe q ρ S ∧ BOk (Wd (f - 1)) M (TB f b) k (eval q ρ S) ∧ (NoT q = true → f = 0 → BOk M M (TB f b) k (eval q ρ S))
theorem MB.low {f g M : Nat} (h : MB f M) (hg : g ≤ 2) : MB g M := ⟨h.1, h.2.1, fun e => by omega⟩
end N97

/-! KaG5 -/
set_option maxRecDepth 100000
set_option maxHeartbeats 1000000
namespace N97
open PySem PySem.W PyProof.Rows

theorem one_ok {m b : Nat} {k : Kd} {v : Val} (h : VOk m b k v) (hb : 0 < b) : BOk 1 m b k (mkBag [(v, 1)]) := by
  have := mkBag_ok (W := 1) (m := m) (b := b) (n := 1) (e := 0) (k := k) (l := [(v, 1)]) (by simp) (Nat.le_refl _) (by decide) fun p hp => by
    obtain rfl := List.mem_singleton.mp hp
    exact ⟨h, Nat.one_lt_two_pow (by omega)⟩
  exact this
theorem bagL_nil : bagL [] = [] := by simp [bagL]
theorem nil_ok {m b : Nat} {k : Kd} : BOk 0 m b k (mkBag []) := ⟨bagL [], rfl, by rw [bagL_nil]; exact Nat.le_refl _, by rw [bagL_nil]; exact fun p h => nomatch h⟩
theorem both_ok {W1 W2 m c : Nat} {k : Kd} {x y : Val} (hx : BOk W1 m c k x) (hy : BOk W2 m c k y) (hn : W1 + W2 ≤ 1048576) : BOk (W1 + W2) m (c + 20) k (mkBag (scale 1 x.rows ++ scale 1 y.rows)) := by
  obtain ⟨l1, _, r1, h1, h2⟩ := hx.rows'
  obtain ⟨l2, _, r2, h3, h4⟩ := hy.rows'
  rw [r1, r2, scale_1, scale_1]
  refine mkBag_ok (n := W1 + W2) (e := 20) (by rw [List.length_append]; omega) (Nat.le_refl _) hn fun p hp => ?_
  rcases List.mem_append.mp hp with hp | hp
  · exact ⟨(h2 p hp).1.mono (Nat.le_refl _) (by omega), (h2 p hp).2⟩
  · exact ⟨(h4 p hp).1.mono (Nat.le_refl _) (by omega), (h4 p hp).2⟩
theorem times_ok {W m c : Nat} {k : Kd} {x : Val} {i : Int} (hx : BOk W m c k x) (hi : -3 ≤ i ∧ i ≤ 3) (hn : W ≤ 1048576) : BOk W m (2 + c + 20) k (mkBag (scale i x.rows)) := by
  obtain ⟨l1, _, r1, h1, h2⟩ := hx.rows'
  rw [r1]
  refine mkBag_ok (n := W) (e := 20) (by rw [scale_len']; omega) (Nat.le_refl _) hn fun p hp => ?_
  obtain ⟨q, hq, rfl⟩ := List.mem_map.mp hp
  exact ⟨(h2 q hq).1.mono (Nat.le_refl _) (by omega), mul_lt (a := 2) (by omega) (h2 q hq).2⟩
theorem for_ok {W1 W2 m c1 c2 : Nat} {k : Kd} {la : List (Val × Int)} {g : Val → Val} (hl : la.length ≤ W1) (hc : ∀ p ∈ la, p.2.natAbs < 2 ^ c1) (hg : ∀ p ∈ la, BOk W2 m c2 k (g p.1)) (hn : W1 * W2 ≤ 1048576) :
    BOk (W1 * W2) m (c1 + c2 + 20) k (mkBag (la.flatMap fun p => scale p.2 (g p.1).rows)) ∧ (la.flatMap fun p => scale p.2 (g p.1).rows).length ≤ W1 * W2 := by
  have hlen : (la.flatMap fun p => scale p.2 (g p.1).rows).length ≤ W1 * W2 := by
    refine Nat.le_trans (flat_len (n := W2) fun p hp => ?_) (Nat.mul_le_mul_right _ hl)
    obtain ⟨l, _, r, h1, _⟩ := (hg p hp).rows'
    rw [scale_len', r]
    exact h1
  refine ⟨mkBag_ok (n := W1 * W2) (e := 20) hlen (Nat.le_refl _) hn fun p hp => ?_, hlen⟩
  obtain ⟨p', hp', hp2⟩ := List.mem_flatMap.mp hp
  obtain ⟨l, _, r, h1, h2⟩ := (hg p' hp').rows'
  rw [r] at hp2
  obtain ⟨q, hq, rfl⟩ := List.mem_map.mp hp2
  exact ⟨(h2 q hq).1.mono (Nat.le_refl _) (by omega), mul_lt (hc p' hp') (h2 q hq).2⟩
theorem Wd_mul {f : Nat} (h : f ≤ 2) : Wd (f - 1) * Wd f ≤ Wd (f + 1) := by
  have : f = 0 ∨ f = 1 ∨ f = 2 := by omega
  rcases this with rfl | rfl | rfl <;> decide
theorem Wd_two {f : Nat} (h : f ≤ 2) : Wd f + Wd f ≤ Wd (f + 1) := by
  have : f = 0 ∨ f = 1 ∨ f = 2 := by omega
  rcases this with rfl | rfl | rfl <;> decide
theorem Wd_le (f : Nat) : Wd f ≤ 759375 := by
  match f with
  | 0 => decide
  | 1 => decide
  | 2 => decide
  | n + 3 => exact Nat.le_refl _
theorem Wd_pred {f : Nat} (h : f ≤ 2) : Wd f ≤ Wd (f + 1) := by
  have := Wd_two h
  omega
theorem MB.sq {f M : Nat} (h : MB f M) : M * M ≤ 225 := Nat.mul_le_mul h.2.1 h.2.1
theorem IW_lim {f M g : Nat} (h : MB f M) : IW g M ≤ 16777216 := by
  have := h.sq
  have := h.2.1
  unfold IW
  split <;> omega
theorem RK.cons {Γ : Ctx} {x : Str} {o : Kd} (h : RK Γ) (ho : o.rank ≤ 5) : RK ((x, o) :: Γ) := fun p hp => by
  rcases List.mem_cons.mp hp with rfl | hp
  · exact ho
  · exact h p hp
theorem BOk.safe {W m c : Nat} {k : Kd} {x : Val} {i : Int} {a : Nat} (h : BOk W m c k x) (hm : m ≤ 16777216) (hi : i.natAbs < 2 ^ a) (hac : a + c ≤ 900000) : ∃ l, x = .bag (.ofR l) ∧ l.length ≤ W ∧ ∀ p ∈ l, HasK k p.1 ∧ MulOk i p.2 := by
  obtain ⟨l, e, _, h1, h2⟩ := h.rows'
  exact ⟨l, e, h1, fun p hp => ⟨(h2 p hp).1.hasK hm, mulok_of hi (h2 p hp).2 hac⟩⟩
theorem Gen.ok {m : Mode} {Γ : Ctx} {f : Nat} {q : Q} (g : Gen m Γ f q) : GT m Γ f q := by
  induction g with
  | @held Γ f k q h =>
    intro hR hE M b ρ S hM hb he hS hk hf hT hN
    obtain ⟨s, v⟩ := h.ok (S := S) he
    exact ⟨s, v.mono (SW_ge hM.1) (TB_ge f b)⟩
  | @sbag Γ f k q g ih =>
    intro hR hE M b ρ S hM hb he hS hk hf hT hN
    have hk' : k.rank + 1 ≤ 5 := hk
    obtain ⟨s, v, w⟩ := ih hR hE M b ρ S (hM.low (by omega)) hb he hS (by omega) (by omega) (Nat.le_trans (TB_pred f b) hT)
    have w' := w hN (by omega)
    have h2 := sq_ge hM.1
    refine ⟨s, BOk.vok (w'.mono ?_ (SW_ge hM.1) (TB_pred f b))⟩
    unfold SW
    by_cases e : f ≤ 1
    · rw [if_pos e, if_pos (by omega)]; omega
    · rw [if_neg e]
      split <;> omega
  | @slvl Γ f q1 q2 g1 g2 i1 i2 =>
    intro hR hE M b ρ S hM hb he hS hk hf hT hN
    have hE' : evenQ q1 = true ∧ evenQ q2 = true := by simpa [evenQ, Q.ofF] using hE
    have hN' : NoT q1 = true ∧ NoT q2 = true := by simpa [NoT, Q.ofF] using hN
    have hM' := hM.low (g := f - 1) (by omega)
    have hT' := Nat.le_trans (TB_pred f b) hT
    obtain ⟨s1, s, e1⟩ := i1 hR hE'.1 M b ρ S hM' hb he hS (by decide) (by omega) hT' hN'.1
    obtain ⟨s2, n, e2, hn⟩ := i2 hR hE'.2 M b ρ S hM' hb he hS (by decide) (by omega) hT' hN'.2
    refine ⟨⟨⟨s1, s2, trivial⟩, _, rfl, by simp, fun p hp => ?_⟩, s, n, ?_, pow_le (TB_pred f b) hn⟩
    · simp only [List.mem_cons, List.not_mem_nil, or_false] at hp
      rcases hp with rfl | rfl
      · exact g1.wf.1 rfl
      · exact g2.wf.1 rfl
    · show Val.row (.fcons "b" (eval q1 ρ S) (.fcons "r" (eval q2 ρ S) .nil)) = _
      rw [e1, e2]
      rfl
  | @sdeep Γ f q1 q2 q3 q4 g1 g2 g3 g4 i1 i2 i3 i4 =>
    intro hR hE M b ρ S hM hb he hS hk hf hT hN
    have hE' : evenQ q1 = true ∧ evenQ q2 = true ∧ evenQ q3 = true ∧ evenQ q4 = true := by simpa [evenQ, Q.ofF] using hE
    have hN' : NoT q1 = true ∧ NoT q2 = true ∧ NoT q3 = true ∧ NoT q4 = true := by simpa [NoT, Q.ofF] using hN
    have hM' := hM.low (g := f - 1) (by omega)
    have hT' := Nat.le_trans (TB_pred f b) hT
    obtain ⟨s1, n, e1, hn⟩ := i1 hR hE'.1 M b ρ S hM' hb he hS (by decide) (by omega) hT' hN'.1
    obtain ⟨s2, s, e2⟩ := i2 hR hE'.2.1 M b ρ S hM' hb he hS (by decide) (by omega) hT' hN'.2.1
    obtain ⟨s3, _, w⟩ := i3 hR hE'.2.2.1 M b ρ S hM' hb he hS (by decide) (by omega) hT'
    obtain ⟨s4, z, e4⟩ := i4 hR hE'.2.2.2 M b ρ S hM' hb he hS (by decide) (by omega) hT' hN'.2.2.2
    have w' := w hN'.2.2.1 (by omega)
    have h2 := sq_ge hM.1
    have w2 : VOk (SW f M) (TB f b) (.bag .num) (eval q3 ρ S) := BOk.vok (w'.mono (by
      unfold SW
      by_cases e : f ≤ 1
      · rw [if_pos e, if_pos (by omega)]; omega
      · rw [if_neg e]
        split <;> omega) (SW_ge hM.1) (TB_pred f b))
    obtain ⟨ts, e3, ht1, ht2⟩ := w2.tnum'
    refine ⟨⟨⟨s1, s2, s3, s4, trivial⟩, _, rfl, by simp, fun p hp => ?_⟩, n, s, z, ts, ?_, ht1, pow_le (TB_pred f b) hn, ht2⟩
    · simp only [List.mem_cons, List.not_mem_nil, or_false] at hp
      rcases hp with rfl | rfl | rfl | rfl
      · exact g1.wf.1 rfl
      · exact g2.wf.1 rfl
      · exact g3.wf.1 rfl
      · exact g4.wf.1 rfl
    · show Val.row (.fcons "a" (eval q1 ρ S) (.fcons "b" (eval q2 ρ S) (.fcons "t" (eval q3 ρ S) (.fcons "z" (eval q4 ρ S) .nil)))) = _
      rw [e1, e2, e3, e4]
      rfl
  | @sadd Γ f a b' g1 g2 i1 i2 =>
    intro hR hE M b ρ S hM hb he hS hk hf hT hN
    have hE' : evenQ a = true ∧ evenQ b' = true := by simpa [evenQ] using hE
    have hN' : NoT a = true ∧ NoT b' = true := by simpa [NoT] using hN
    have hT' := Nat.le_trans (TB_le f b) hT
    obtain ⟨s1, n1, e1, h1⟩ := i1 hR hE'.1 M b ρ S (hM.low (by omega)) hb he hS hk (by omega) hT' hN'.1
    obtain ⟨s2, n2, e2, h2⟩ := i2 hR hE'.2 M b ρ S (hM.low (by omega)) hb he hS hk (by omega) hT' hN'.2
    refine ⟨⟨g1.wf.1 rfl, g2.wf.1 rfl, s1, s2, n1, n2, e1, e2, mulok_of h1 h2 (by omega)⟩, n1 + n2, ?_, pow_le (by rw [TB_succ]; omega) (add_lt h1 h2)⟩
    show Val.num ((eval a ρ S).numOf + (eval b' ρ S).numOf) = _
    rw [e1, e2]
    rfl
  | @smul Γ f a b' g1 g2 i1 i2 =>
    intro hR hE M b ρ S hM hb he hS hk hf hT hN
    have hE' : evenQ a = true ∧ evenQ b' = true := by simpa [evenQ] using hE
    have hN' : NoT a = true ∧ NoT b' = true := by simpa [NoT] using hN
    have hT' := Nat.le_trans (TB_le f b) hT
    obtain ⟨s1, n1, e1, h1⟩ := i1 hR hE'.1 M b ρ S (hM.low (by omega)) hb he hS hk (by omega) hT' hN'.1
    obtain ⟨s2, n2, e2, h2⟩ := i2 hR hE'.2 M b ρ S (hM.low (by omega)) hb he hS hk (by omega) hT' hN'.2
    refine ⟨⟨g1.wf.1 rfl, g2.wf.1 rfl, s1, s2, n1, n2, e1, e2, mulok_of h1 h2 (by omega)⟩, n1 * n2, ?_, pow_le ?_ (mul_lt h1 h2)⟩
    · show Val.num ((eval a ρ S).numOf * (eval b' ρ S).numOf) = _
      rw [e1, e2]
      rfl
    · have := TB_ge f (TB f b)
      rw [TB_succ]
      omega
  | @snum Γ f n h =>
    intro hR hE M b ρ S hM hb he hS hk hf hT hN
    exact ⟨trivial, n, rfl, pow_le (Nat.le_trans (by omega) (TB_ge f b)) h⟩
  | @sword Γ f s =>
    intro hR hE M b ρ S hM hb he hS hk hf hT hN
    exact ⟨trivial, s, rfl⟩
  | @arm Γ k a hk g ih =>
    intro hR hE M b ρ S hM hb he hS hb2 hN
    exact ih hR hE M b ρ S hM hb he hS (by rcases hk with rfl | rfl <;> decide) (by decide) hb2 hN
  | armA _ _ =>
    intro hR hE M b ρ S hM hb he hS hb2 hN
    simp [NoT, Q.ofF] at hN
  | armL _ _ =>
    intro hR hE M b ρ S hM hb he hS hb2 hN
    simp [NoT] at hN
  | @cnot Γ f a g ih =>
    intro hR hE M b ρ S hM hb he hS hf hb2 hN
    exact ⟨g.wf.2.1 rfl, ih hR hE M b ρ S (hM.low (by omega)) hb he hS (by omega) hb2 hN⟩
  | @cand Γ f a b' g1 g2 i1 i2 =>
    intro hR hE M b ρ S hM hb he hS hf hb2 hN
    have hE' : evenQ a = true ∧ evenQ b' = true := by simpa [evenQ] using hE
    have hN' : NoT a = true ∧ NoT b' = true := by simpa [NoT] using hN
    exact ⟨g1.wf.2.1 rfl, g2.wf.2.1 rfl, i1 hR hE'.1 M b ρ S (hM.low (by omega)) hb he hS (by omega) hb2 hN'.1, i2 hR hE'.2 M b ρ S (hM.low (by omega)) hb he hS (by omega) hb2 hN'.2⟩
  | @cor Γ f a b' g1 g2 i1 i2 =>
    intro hR hE M b ρ S hM hb he hS hf hb2 hN
    have hE' : evenQ a = true ∧ evenQ b' = true := by simpa [evenQ] using hE
    have hN' : NoT a = true ∧ NoT b' = true := by simpa [NoT] using hN
    exact ⟨g1.wf.2.1 rfl, g2.wf.2.1 rfl, i1 hR hE'.1 M b ρ S (hM.low (by omega)) hb he hS (by omega) hb2 hN'.1, i2 hR hE'.2 M b ρ S (hM.low (by omega)) hb he hS (by omega) hb2 hN'.2⟩
  | @csame Γ f k a b' hk g1 g2 i1 i2 =>
    intro hR hE M b ρ S hM hb he hS hf hb2 hN
    have hE' : evenQ a = true ∧ evenQ b' = true := by simpa [evenQ] using hE
    have hN' : NoT a = true ∧ NoT b' = true := by simpa [NoT] using hN
    have hkr : k.rank ≤ 5 := by rcases hk with rfl | rfl <;> decide
    obtain ⟨s1, v1⟩ := i1 hR hE'.1 M b ρ S (hM.low (by omega)) hb he hS hb2 hN'.1
    obtain ⟨s2, _⟩ := i2 hR hE'.2 M b ρ S (hM.low (by omega)) hb he hS hkr (by decide) hb2 hN'.2
    have := hM.2.1
    exact ⟨g1.wf.1 rfl, g2.wf.1 rfl, s1, s2, v1.knd (by omega) (by omega)⟩
  | @cunder Γ f a b' g1 g2 i1 i2 =>
    intro hR hE M b ρ S hM hb he hS hf hb2 hN
    have hE' : evenQ a = true ∧ evenQ b' = true := by simpa [evenQ] using hE
    have hN' : NoT a = true ∧ NoT b' = true := by simpa [NoT] using hN
    obtain ⟨s1, n1, e1, _⟩ := i1 hR hE'.1 M b ρ S (hM.low (by omega)) hb he hS hb2 hN'.1
    obtain ⟨s2, n2, e2, _⟩ := i2 hR hE'.2 M b ρ S (hM.low (by omega)) hb he hS (by decide) (by decide) hb2 hN'.2
    exact ⟨g1.wf.1 rfl, g2.wf.1 rfl, s1, s2, n1, n2, e1, e2⟩
  | @ovar Γ f k x h =>
    intro hR hE M b ρ S hM hb he hS hf hT
    obtain ⟨s, v⟩ := Held.ok (S := S) (.inl ⟨x, h, rfl⟩) he
    have h15 := Wd_ge (f - 1)
    have := hM.2.1
    exact ⟨s, v.bag.mono (by omega) (Nat.le_refl _) (TB_ge f b), fun _ _ => v.bag.mono (Nat.le_refl _) (Nat.le_refl _) (TB_ge f b)⟩
  | @oat Γ f x h =>
    intro hR hE M b ρ S hM hb he hS hf hT
    obtain ⟨s, v⟩ := Held.ok (S := S) (k := .bag .num) (q := .att "t" (.var x)) (.inr ⟨x, .deep, "t", h, by simp [Kd.fields], rfl⟩) he
    have h15 := Wd_ge (f - 1)
    have := hM.2.1
    exact ⟨s, v.bag.mono (by omega) (Nat.le_refl _) (TB_ge f b), fun _ _ => v.bag.mono (Nat.le_refl _) (Nat.le_refl _) (TB_ge f b)⟩
  | @otab Γ f k t h =>
    intro hR hE M b ρ S hM hb he hS hf hT
    exact ⟨kdOf_T5 h, (hS t k h).mono (Wd_ge (f - 1)) hM.1 (Nat.le_trans hb (TB_ge f b)), fun z => by simp [NoT] at z⟩
  | @oask Γ f k t q hk g ih =>
    intro hR hE M b ρ S hM hb he hS hf hT
    obtain ⟨s, v, _⟩ := ih hR hE M b ρ S (hM.low (by omega)) hb he hS (kdOf_rank hk) (by omega) (Nat.le_trans (TB_le f b) hT)
    refine ⟨s, v.mono (Nat.le_refl _) ?_ (TB_le f b), fun _ z => by omega⟩
    unfold IW
    rw [if_pos (by omega)]
    exact Nat.le_refl _
  | @asml Γ f k q hn g ih =>
    have key : RK Γ → evenQ q = true → ∀ (M b : Nat) (ρ : Env) (S : Sto), MB f M → 120 ≤ b → EnvT M b Γ ρ → StoT S → k.rank ≤ 5 → f ≤ 1 → TB f b ≤ 100000 → NoT q = true → Safe q ρ S ∧ VOk M (TB f b) k (eval q ρ S) := by
      intro hR hE M b ρ S hM hb he hS hk hf hT hN
      obtain ⟨s, v⟩ := ih hR hE M b ρ S hM hb he hS hk (by omega) hT hN
      have e : SW f M = M := if_pos hf
      rw [e] at v
      exact ⟨s, v⟩
    cases k with
    | bag k' => exact absurd rfl (hn k')
    | _ => exact key
  | @aheld Γ f k q h =>
    intro hR hE M b ρ S hM hb he hS hk hf hT
    obtain ⟨s, v⟩ := h.ok (S := S) he
    have h15 := Wd_ge f
    have h2 := sq_ge hM.1
    have := hM.2.1
    refine ⟨s, v.bag.mono (by omega) (IW_ge hM.1) (TB_ge f b), fun _ _ => v.bag.mono ?_ (Nat.le_refl _) (TB_ge f b)⟩
    split <;> omega
  | @atab Γ f k t h =>
    intro hR hE M b ρ S hM hb he hS hk hf hT
    exact ⟨kdOf_T5 h, (hS t k h).mono (Wd_ge f) (Nat.le_trans hM.1 (IW_ge hM.1)) (Nat.le_trans hb (TB_ge f b)), fun z => by simp [NoT] at z⟩
  | @aone0 Γ f k q g ih =>
    intro hR hE M b ρ S hM hb he hS hk hf hT
    have hE' : NoT q = true ∧ evenQ q = true := by simpa [evenQ] using hE
    have hbT := TB_ge f b
    obtain ⟨s, v⟩ := ih hR hE'.2 M b ρ S (hM.low (by omega)) hb he hS (by omega) (by decide) (show b ≤ 100000 by omega) hE'.1
    have v' : VOk M b k (eval q ρ S) := v
    have o := one_ok v' (by omega)
    have h15 := Wd_ge f
    have h2 := sq_ge hM.1
    have := hM.1
    have := hM.2.1
    refine ⟨⟨g.wf.1 rfl, s, v'.knd (by omega) (by omega)⟩, o.mono (by omega) (IW_ge hM.1) hbT, fun _ _ => o.mono ?_ (Nat.le_refl _) hbT⟩
    split <;> omega
  | @anone Γ f k =>
    intro hR hE M b ρ S hM hb he hS hk hf hT
    exact ⟨trivial, nil_ok.mono (Nat.zero_le _) (Nat.le_refl _) (Nat.le_refl _), fun _ _ => nil_ok.mono (Nat.zero_le _) (Nat.le_refl _) (Nat.le_refl _)⟩
  | @aboth Γ f k a b' g1 g2 i1 i2 =>
    intro hR hE M b ρ S hM hb he hS hk hf hT
    have hE' : evenQ a = true ∧ evenQ b' = true := by simpa [evenQ] using hE
    have hT' := Nat.le_trans (TB_le f b) hT
    obtain ⟨s1, v1, w1⟩ := i1 hR hE'.1 M b ρ S (hM.low (by omega)) hb he hS hk (by omega) hT'
    obtain ⟨s2, v2, w2⟩ := i2 hR hE'.2 M b ρ S (hM.low (by omega)) hb he hS hk (by omega) hT'
    have hwd := Wd_two (f := f) (by omega)
    have hwl := Wd_le (f + 1)
    have hTs := TB_succ f b
    have hIl := IW_lim (g := f) hM
    obtain ⟨la, ea, lla, hla⟩ := v1.safe (i := 1) (a := 1) hIl (by decide) (by omega)
    obtain ⟨lb, eb, llb, hlb⟩ := v2.safe (i := 1) (a := 1) hIl (by decide) (by omega)
    have h2 := sq_ge hM.1
    refine ⟨⟨g1.wf.1 rfl, g2.wf.1 rfl, s1, s2, k, la, lb, by omega, ea, eb, hla, hlb, by omega⟩, (both_ok v1 v2 (by omega)).mono hwd (IW_le hM.1) (by omega), fun hN hf1 => ?_⟩
    have hN' : NoT a = true ∧ NoT b' = true := by simpa [NoT] using hN
    obtain rfl : f = 0 := by omega
    have hm15 := hM.2.1
    refine (both_ok (w1 hN'.1 (by decide)) (w2 hN'.2 (by decide)) ?_).mono ?_ (Nat.le_refl _) (by omega)
    · show M + M ≤ _
      omega
    · show M + M ≤ M * M
      omega
  | @atimes Γ f k i a hi g ih =>
    intro hR hE M b ρ S hM hb he hS hk hf hT
    have hT' := Nat.le_trans (TB_le f b) hT
    obtain ⟨s1, v1, w1⟩ := ih hR hE M b ρ S (hM.low (by omega)) hb he hS hk (by omega) hT'
    have hwd := Wd_pred (f := f) (by omega)
    have hwl := Wd_le f
    have hTs := TB_succ f b
    have hIl := IW_lim (g := f) hM
    obtain ⟨la, ea, lla, hla⟩ := v1.safe (i := i) (a := 2) hIl (by omega) (by omega)
    have h2 := sq_ge hM.1
    refine ⟨⟨g.wf.1 rfl, s1, hi, k, la, by omega, ea, hla, by omega⟩, (times_ok v1 hi (by omega)).mono hwd (IW_le hM.1) (by omega), fun hN hf1 => ?_⟩
    obtain rfl : f = 0 := by omega
    have hm15 := hM.2.1
    refine (times_ok (w1 hN (by decide)) hi ?_).mono ?_ (Nat.le_refl _) (by omega)
    · show M ≤ _
      omega
    · show M ≤ M * M
      omega
  | @awhen Γ f k t a g1 g2 i1 i2 =>
    intro hR hE M b ρ S hM hb he hS hk hf hT
    have hE' : evenQ t = true ∧ evenQ a = true := by simpa [evenQ] using hE
    have hT' := Nat.le_trans (TB_le f b) hT
    have hbT := TB_ge (f + 1) b
    have hNt : NoT t = true := g1.noT hE'.1
    have st := i1 hR hE'.1 M b ρ S (hM.low (by omega)) hb he hS (by decide) (by omega) hNt
    obtain ⟨s1, v1, w1⟩ := i2 hR hE'.2 M b ρ S (hM.low (by omega)) hb he hS hk (by omega) hT'
    have hwd := Wd_pred (f := f) (by omega)
    have h2 := sq_ge hM.1
    refine ⟨⟨g1.wf.2.1 rfl, g2.wf.1 rfl, st, fun _ => s1⟩, ?_, fun hN hf1 => ?_⟩
    · show BOk _ _ _ _ (if isT (eval t ρ S) = true then eval a ρ S else mkBag [])
      split
      · exact v1.mono hwd (IW_le hM.1) (TB_le f b)
      · exact nil_ok.mono (Nat.zero_le _) (Nat.le_refl _) (Nat.le_refl _)
    · have hN' : NoT t = true ∧ NoT a = true := by simpa [NoT] using hN
      obtain rfl : f = 0 := by omega
      show BOk (M * M) M (TB (0 + 1) b) k (if isT (eval t ρ S) = true then eval a ρ S else mkBag [])
      split
      · exact (w1 hN'.2 (by decide)).mono (show M ≤ M * M by omega) (Nat.le_refl _) (TB_le 0 b)
      · exact nil_ok.mono (Nat.zero_le _) (Nat.le_refl _) (Nat.le_refl _)
  | @aone Γ f k q g ih =>
    intro hR hE M b ρ S hM hb he hS hk hf hT
    have hE' : NoT q = true ∧ evenQ q = true := by simpa [evenQ] using hE
    have hT' := Nat.le_trans (TB_le f b) hT
    obtain ⟨s, v⟩ := ih hR hE'.2 M b ρ S (hM.low (by omega)) hb he hS (by omega) (by omega) hT' hE'.1
    have hbT := TB_ge f b
    have o := one_ok v (by omega)
    have h15 := Wd_ge (f + 1)
    have h2 := sq_ge hM.1
    have := hM.1
    have hIl := IW_lim (g := f + 1) hM
    have eSI := SW_IW (f := f) hM.1
    refine ⟨⟨g.wf.1 rfl, s, v.knd (by omega) (by omega)⟩, o.mono (by omega) (by omega) (TB_le f b), fun _ hf1 => ?_⟩
    obtain rfl : f = 0 := by omega
    exact o.mono (show 1 ≤ M * M by omega) (show M ≤ M from Nat.le_refl _) (TB_le 0 b)
  | @ataken Γ f k q x fs h1 h6 hn hl g ih =>
    intro hR hE M b ρ S hM hb he hS hk hf hT
    have hE' : NoT (.ofF fs) = true ∧ evenQ (.ofF fs) = true := by simpa [evenQ, NoT] using hE
    have hT' := Nat.le_trans (TB_le f b) hT
    obtain ⟨s, v, w⟩ := ih hR (even_mem hE'.2 h1) M b ρ S (hM.low (by omega)) hb he hS hk (by omega) hT'
    have hNq := noT_mem hE'.1 h1
    have ev : eval (.row (.ofF fs)) ρ S = .row (.ofF (fs.map fun p => (p.1, eval p.2 ρ S))) := by
      show Val.row (eval (.ofF fs) ρ S) = _
      rw [eval_ofF']
    have hmap : (fs.map fun p => (p.1, eval p.2 ρ S)).map (·.1) = fs.map (·.1) := by
      rw [List.map_map]
      rfl
    have eres : eval (.att x (.row (.ofF fs))) ρ S = eval q ρ S := by
      show getF x (eval (.row (.ofF fs)) ρ S).fields = _
      rw [ev, show (Val.row (.ofF (fs.map fun p => (p.1, eval p.2 ρ S)))).fields = _ from Val.spF_ofF _]
      exact getF_of (by rw [hmap]; exact hn) (List.mem_map.mpr ⟨(x, q), h1, rfl⟩)
    have hwd := Wd_pred (f := f) (by omega)
    have h2 := sq_ge hM.1
    refine ⟨⟨rfl, ⟨safe_mk fun p hp => ?_, fs, rfl, by omega, fun p hp => ?_⟩, _, ev, by rw [hmap]; exact hn, by rw [hmap]; exact List.mem_map.mpr ⟨(x, q), h1, rfl⟩, by rw [List.length_map]; omega⟩, ?_, fun hN hf1 => ?_⟩
    · rcases h6 p hp with e | e
      · rw [e]
        trivial
      · rw [e]
        exact s
    · rcases h6 p hp with e | e
      · rw [e]
        rfl
      · rw [e]
        exact g.wf.1 rfl
    · rw [eres]
      exact v.mono hwd (IW_le hM.1) (TB_le f b)
    · rw [eres]
      obtain rfl : f = 0 := by omega
      exact (w hNq (by decide)).mono (show M ≤ M * M by omega) (Nat.le_refl _) (TB_le 0 b)
  | @alet Γ f k o x a c ho g1 g2 i1 i2 =>
    intro hR hE M b ρ S hM hb he hS hk hf hT
    have hE' : NoT a = true ∧ evenQ a = true ∧ evenQ c = true := by simpa [evenQ] using hE
    have hT' := Nat.le_trans (TB_le f b) hT
    have hT1 := Nat.le_trans (TB_pred f b) hT'
    have hb1 := TB_ge (f - 1) b
    have h2 := sq_ge hM.1
    have hor : o.rank ≤ 5 := by rcases ho with rfl | rfl <;> decide
    have bound : Safe a ρ S ∧ VOk (if f - 1 = 0 then M else M * M) (TB (f - 1) b) o (eval a ρ S) := by
      rcases ho with rfl | rfl
      · obtain ⟨s, v⟩ := i1 hR hE'.2.1 M b ρ S (hM.low (by omega)) hb he hS (by decide) (by omega) hT1 hE'.1
        exact ⟨s, v.mono (by split <;> omega) (Nat.le_refl _)⟩
      · obtain ⟨s, _, w⟩ := i1 hR hE'.2.1 M b ρ S (hM.low (by omega)) hb he hS (by decide) (by omega) hT1
        exact ⟨s, BOk.vok ((w hE'.1 (by omega)).mono (Nat.le_refl _) (by split <;> omega) (Nat.le_refl _))⟩
    obtain ⟨s1, v1⟩ := bound
    have hM' : MB f (if f - 1 = 0 then M else M * M) := by
      refine ⟨?_, ?_, fun z => by omega⟩
      · have := hM.1
        split <;> omega
      · have := hM.2.1
        split
        · omega
        · exact hM.2.2 (by omega)
    have hmono := TB_mono f (TB_pred f b)
    have hTs := TB_succ f b
    obtain ⟨s2, v2, w2⟩ := i2 (hR.cons hor) hE'.2.2 (if f - 1 = 0 then M else M * M) (TB (f - 1) b) (put ρ x (eval a ρ S)) S hM' (by omega) ((he.mono (by split <;> omega) hb1).put v1) hS hk (by omega) (by omega)
    have hwd := Wd_pred (f := f) (by omega)
    refine ⟨⟨g1.wf.1 rfl, g2.wf.1 rfl, s1, s2⟩, v2.mono hwd ?_ (by omega), fun hN hf1 => ?_⟩
    · unfold IW
      rw [if_pos (show f ≤ 2 by omega)]
      by_cases e : f + 1 ≤ 2
      · rw [if_pos e, if_pos (by omega)]; omega
      · rw [if_neg e]
        split <;> omega
    · have hN' : NoT a = true ∧ NoT c = true := by simpa [NoT] using hN
      obtain rfl : f = 0 := by omega
      exact (w2 hN'.2 (by decide)).mono (show M ≤ M * M by omega) (show M ≤ M from Nat.le_refl _) (by omega)
  | @afor Γ f k o x a c g1 g2 i1 i2 =>
    intro hR hE M b ρ S hM hb he hS hk hf hT
    have hE' : evenQ a = true ∧ evenQ c = true := by simpa [evenQ] using hE
    have hTs := TB_succ f b
    have hbT := TB_ge f b
    have hor := g1.ovr_rank hR
    obtain ⟨s1, v1, w1⟩ := i1 hR hE'.1 M b ρ S (hM.low (by omega)) hb he hS (by omega) (by omega)
    obtain ⟨la, ea, ra, lla, hla⟩ := v1.rows'
    have body : ∀ p ∈ la, Safe c (put ρ x p.1) S ∧ BOk (Wd f) (IW f M) (TB f (TB f b)) k (eval c (put ρ x p.1) S) ∧ (NoT c = true → f ≤ 1 → BOk (if f = 0 then M else M * M) M (TB f (TB f b)) k (eval c (put ρ x p.1) S)) := fun p hp =>
      i2 (hR.cons (by omega)) hE'.2 M (TB f b) (put ρ x p.1) S (hM.low (by omega)) (by omega) ((he.mono (Nat.le_refl _) hbT).put (hla p hp).1) hS hk (by omega) (by omega)
    have hwm := Wd_mul (f := f) (by omega)
    have hwl := Wd_le (f + 1)
    have hwl1 := Wd_le (f - 1)
    have hIl := IW_lim (g := f) hM
    obtain ⟨r1, r2⟩ := for_ok (g := fun v => eval c (put ρ x v) S) lla (fun p hp => (hla p hp).2) (fun p hp => (body p hp).2.1) (by omega)
    have h2 := sq_ge hM.1
    have erow : eval (.for_ x a c) ρ S = mkBag (la.flatMap fun p => scale p.2 (eval c (put ρ x p.1) S).rows) := by
      show mkBag ((eval a ρ S).rows.flatMap _) = _
      rw [ra]
    refine ⟨⟨g1.wf.1 rfl, g2.wf.1 rfl, s1, k, la, by omega, ea, by omega, fun p hp => ⟨(body p hp).1, ?_⟩, by omega⟩, ?_, fun hN hf1 => ?_⟩
    · obtain ⟨lb, eb, llb, hlb⟩ := (body p hp).2.1.safe (i := p.2) (a := TB f b) hIl (hla p hp).2 (by omega)
      exact ⟨lb, eb, hlb⟩
    · rw [erow]
      exact r1.mono hwm (IW_le hM.1) (by omega)
    · have hN' : NoT a = true ∧ NoT c = true := by simpa [NoT] using hN
      obtain rfl : f = 0 := by omega
      obtain ⟨l', _, r', ll', _⟩ := (w1 hN'.1 rfl).rows'
      have el : l' = la := r'.symm.trans ra
      subst el
      have hm15 := hM.2.1
      have hsq := hM.sq
      obtain ⟨r3, _⟩ := for_ok (W2 := M) (g := fun v => eval c (put ρ x v) S) ll' (fun p hp => (hla p hp).2) (fun p hp => (body p hp).2.2 hN'.2 (by decide)) (by omega)
      rw [erow]
      exact r3.mono (Nat.le_refl _) (Nat.le_refl _) (by omega)
end N97

/-! KaG6 -/
set_option maxRecDepth 100000
set_option maxHeartbeats 1000000
namespace N97
open PySem PySem.W PyProof.Rows

theorem pd_tup (xs : List PyData) : pd (.tuple xs) = pdAll xs := by rw [pd]
theorem pdAll_cons (x : PyData) (xs : List PyData) : pdAll (x :: xs) = (pd x && pdAll xs) := by rw [pdAll]
theorem pdAll_nil : pdAll [] = true := by rw [pdAll]
theorem pd_key : ∀ v : Val, pd v.key = true := by
  intro v
  induction v with
  | num n => simp [Val.key, pd, pdAll]
  | word s => simp [Val.key, pd, pdAll]
  | row fs ih => rw [Val.key, pd_tup, pdAll_cons, pdAll_cons, ih, pdAll_nil]; simp [pd]
  | bag fs ih => rw [Val.key, pd_tup, pdAll_cons, pdAll_cons, ih, pdAll_nil]; simp [pd]
  | nil => simp [Val.key, pd, pdAll]
  | fcons f v r ih1 ih2 =>
    obtain ⟨xs, e⟩ := Val.key_tup r
    rw [e, pd_tup] at ih2
    rw [Val.key, e, pd_tup, pdAll_cons, pd_tup, pdAll_cons, pdAll_cons, ih1, pdAll_nil, show items (.tuple xs) = xs from rfl, ih2]
    simp [pd]
  | bcons v c r ih1 ih2 =>
    obtain ⟨xs, e⟩ := Val.key_tup r
    rw [e, pd_tup] at ih2
    rw [Val.key, e, pd_tup, pdAll_cons, pd_tup, pdAll_cons, pdAll_cons, ih1, pdAll_nil, show items (.tuple xs) = xs from rfl, ih2]
    simp [pd]
abbrev lx (a b : List (Int ⊕ List Nat)) : Bool := PyProof.Rows.lexLt itemOrd a b
theorem dataLt_sdat (a b : Val × Int) : dataLt (sdat a) (sdat b) = lx (keyToks a.1.key ++ keyToksAll [a.1.enc, .int a.2]) (keyToks b.1.key ++ keyToksAll [b.1.enc, .int b.2]) := by
  rw [sdat, sdat, dataLt_tuple, toks_all_cons, toks_all_cons]
  exact lex_self (O := itemOrd) _ _ _
theorem between {k : Kd} {a b c : Val × Int} (ha : HasK k a.1) (hb : HasK k b.1) (h1 : dataLe false sdat a b = true) (h2 : dataLe false sdat b c = true) (e : a.1 = c.1) : b.1 = a.1 := by
  refine Decidable.byContradiction fun hne => ?_
  have hk : alike b.1.key a.1.key = true := (kind_alike k _ _ hb ha).2
  have hk' : alike a.1.key b.1.key = true := (kind_alike k _ _ ha hb).2
  have hq : PyData.eqv b.1.key a.1.key = false := by
    cases h : PyData.eqv b.1.key a.1.key with
    | false => rfl
    | true => exact absurd (Val.key_inj _ _ (pd_eqv _ _ (pd_key _) (pd_key _) h)) hne
  have hq' : PyData.eqv a.1.key b.1.key = false := by
    cases h : PyData.eqv a.1.key b.1.key with
    | false => rfl
    | true => exact absurd (Val.key_inj _ _ (pd_eqv _ _ (pd_key _) (pd_key _) h)).symm hne
  have l1 : dataLt (sdat b) (sdat a) = false := by
    rw [dataLe_eq] at h1
    simpa using h1
  have l2 : dataLt (sdat c) (sdat b) = false := by
    rw [dataLe_eq] at h2
    simpa using h2
  rw [dataLt_sdat] at l1 l2
  rw [← e] at l2
  have m1 := (toks_eqv _ _ hk).2 hq
  have m2 := (toks_eqv _ _ hk').2 hq'
  have n1 : lx (keyToks b.1.key) (keyToks a.1.key) = false := (m1 _ _).symm.trans l1
  have n2 : lx (keyToks a.1.key) (keyToks b.1.key) = false := (m2 _ _).symm.trans l2
  have ee : keyToks b.1.key = keyToks a.1.key := lex_total (O := itemOrd) _ _ n1 n2
  have m3 := m1 [] [Sum.inl 0]
  rw [ee] at m3
  have m4 : lx (keyToks a.1.key ++ []) (keyToks a.1.key ++ [Sum.inl 0]) = true := (lex_pre _ _ _).trans rfl
  have m5 : lx (keyToks a.1.key) (keyToks a.1.key) = false := lex_irrefl (O := itemOrd) _
  exact absurd (m4.symm.trans (m3.trans m5)) (by decide)
theorem dataLe_trans (a b c : Val × Int) (h1 : dataLe false sdat a b = true) (h2 : dataLe false sdat b c = true) : dataLe false sdat a c = true := by
  rw [dataLe_eq] at *
  have l1 : dataLt (sdat b) (sdat a) = false := by simpa using h1
  have l2 : dataLt (sdat c) (sdat b) = false := by simpa using h2
  show (!dataLt (sdat c) (sdat a)) = true
  cases h : dataLt (sdat c) (sdat a) with
  | false => rfl
  | true =>
    rcases lex_negTrans (O := itemOrd) (keyToks (sdat c)) (keyToks (sdat b)) (keyToks (sdat a)) h with h | h
    · exact absurd (h.symm.trans l2) (by decide)
    · exact absurd (h.symm.trans l1) (by decide)
theorem dataLe_total (a b : Val × Int) : (dataLe false sdat a b || dataLe false sdat b a) = true := by
  rw [dataLe_eq]
  show (!dataLt (sdat b) (sdat a) || !dataLt (sdat a) (sdat b)) = true
  cases h1 : dataLt (sdat b) (sdat a) with
  | false => rfl
  | true =>
    cases h2 : dataLt (sdat a) (sdat b) with
    | false => rfl
    | true =>
      have := lex_trans (O := itemOrd) _ _ _ h1 h2
      exact absurd (this.symm.trans (lex_irrefl (O := itemOrd) _)) (by decide)
/-- grouping a sorted list -/
def GInv (pre acc : List (Val × Int)) : Prop := (acc.map (·.1)).Nodup ∧ (∀ p ∈ acc, p.1 ∈ pre.map (·.1)) ∧ ((pre = [] ∧ acc = []) ∨ ∃ pre' b acc' q, pre = pre' ++ [b] ∧ acc = acc' ++ [q] ∧ q.1 = b.1)
theorem group {k : Kd} : ∀ (rest pre acc : List (Val × Int)), (∀ p ∈ pre ++ rest, HasK k p.1) → (pre ++ rest).Pairwise (fun a b => dataLe false sdat a b = true) → GInv pre acc → ((rest.foldl joinR acc).map (·.1)).Nodup
  | [], _, _, _, _, h => h.1
  | p :: r, pre, acc, hk, hs, h => by
    rw [List.foldl_cons]
    have eapp : pre ++ p :: r = (pre ++ [p]) ++ r := by simp
    refine group r (pre ++ [p]) (joinR acc p) (by rw [← eapp]; exact hk) (by rw [← eapp]; exact hs) ?_
    obtain ⟨h1, h2, h3⟩ := h
    rcases h3 with ⟨rfl, rfl⟩ | ⟨pre', b, acc', q, rfl, rfl, eq⟩
    · exact ⟨by simp [joinR], by simp [joinR], .inr ⟨[], p, [], p, rfl, rfl, rfl⟩⟩
    · have hl : (acc' ++ [q]).getLast? = some q := List.getLast?_concat
      have ej : joinR (acc' ++ [q]) p = if q.1 = p.1 then acc' ++ [(p.1, p.2 + q.2)] else (acc' ++ [q]) ++ [p] := by
        unfold joinR
        rw [hl, List.dropLast_concat]
      rw [ej]
      by_cases e : q.1 = p.1
      · rw [if_pos e]
        refine ⟨?_, fun x hx => ?_, .inr ⟨pre' ++ [b], p, acc', (p.1, p.2 + q.2), rfl, rfl, rfl⟩⟩
        · rw [List.map_append] at h1 ⊢
          show (acc'.map _ ++ [p.1]).Nodup
          rw [← e]
          exact h1
        · rcases List.mem_append.mp hx with hx | hx
          · rw [List.map_append]
            exact List.mem_append_left _ (h2 x (List.mem_append_left _ hx))
          · obtain rfl := List.mem_singleton.mp hx
            rw [List.map_append]
            exact List.mem_append_right _ (List.mem_singleton_self _)
      · rw [if_neg e]
        have hnew : p.1 ∉ (acc' ++ [q]).map (·.1) := fun hin => by
          obtain ⟨x, hx, ex⟩ := List.mem_map.mp hin
          obtain ⟨a, ha, ea⟩ := List.mem_map.mp (h2 x hx)
          have eap : a.1 = p.1 := ea.trans ex
          rcases List.mem_append.mp ha with ha | ha
          · have hap : dataLe false sdat a b = true := by
              have h4 : (pre' ++ ([b] ++ p :: r)).Pairwise (fun a b => dataLe false sdat a b = true) := by simpa using hs
              exact (List.pairwise_append.mp h4).2.2 a ha b (by simp)
            have hbp : dataLe false sdat b p = true := (List.pairwise_append.mp hs).2.2 b (by simp) p (by simp)
            have := between (k := k) (hk a (by simp [ha])) (hk b (by simp)) hap hbp eap
            exact e (eq.trans (this.trans eap))
          · obtain rfl := List.mem_singleton.mp ha
            exact e (eq.trans eap)
        refine ⟨?_, fun x hx => ?_, .inr ⟨pre' ++ [b], p, acc' ++ [q], p, rfl, rfl, rfl⟩⟩
        · rw [List.map_append, List.nodup_append]
          refine ⟨h1, by simp, fun a ha b hb e => ?_⟩
          obtain rfl : b = p.1 := by simpa using hb
          subst e
          exact hnew ha
        · rcases List.mem_append.mp hx with hx | hx
          · rw [List.map_append]
            exact List.mem_append_left _ (h2 x hx)
          · obtain rfl := List.mem_singleton.mp hx
            rw [List.map_append]
            exact List.mem_append_right _ (List.mem_singleton_self _)
theorem cnt_nodup {p : Val × Int} : ∀ {l : List (Val × Int)}, (l.map (·.1)).Nodup → p ∈ l → cnt p.1 l = p.2
  | [], _, h => nomatch h
  | q :: r, hn, h => by
    rw [List.map_cons, List.nodup_cons] at hn
    rw [cnt_cons]
    have zero : ∀ (l : List (Val × Int)) (v : Val), v ∉ l.map (·.1) → cnt v l = 0 := by
      intro l v
      induction l with
      | nil => intro _; rfl
      | cons a l ih =>
        intro h
        rw [List.map_cons, List.mem_cons, not_or] at h
        rw [cnt_cons, ih h.2, if_neg fun e => h.1 e.symm]
        rfl
    rcases List.mem_cons.mp h with rfl | h
    · rw [if_pos rfl, zero r p.1 hn.1, Int.add_zero]
    · rw [if_neg fun e => hn.1 (by rw [e]; exact List.mem_map.mpr ⟨p, h, rfl⟩), cnt_nodup hn.2 h, Int.zero_add]
/-- rows of one kind whose counts are all naught make an empty bag -/
theorem bagL_zero {k : Kd} {l : List (Val × Int)} (hk : ∀ p ∈ l, HasK k p.1) (h0 : ∀ v, cnt v l = 0) : bagL l = [] := by
  have hperm := List.mergeSort_perm l (dataLe false sdat)
  have hs : (l.mergeSort (dataLe false sdat)).Pairwise (fun a b => dataLe false sdat a b = true) := List.pairwise_mergeSort dataLe_trans dataLe_total l
  have hg := group (k := k) (l.mergeSort (dataLe false sdat)) [] [] (fun p hp => hk p (hperm.mem_iff.mp hp)) hs ⟨List.nodup_nil, (fun p h => nomatch h), .inl ⟨rfl, rfl⟩⟩
  unfold bagL
  rw [List.filter_eq_nil_iff]
  intro p hp
  have h1 := cnt_nodup hg hp
  have h2 : cnt p.1 ((l.mergeSort (dataLe false sdat)).foldl joinR []) = 0 := by
    rw [cnt_fold, cnt_nil, Int.zero_add, cnt_perm _ hperm]
    exact h0 _
  rw [h2] at h1
  simp [← h1]
end N97

/-! KaG7 -/
set_option maxRecDepth 100000
set_option maxHeartbeats 1000000
namespace N97
open PySem PySem.W PyProof.Rows

/-! ### sums -/
def sm {α : Type} (l : List α) (f : α → Int) : Int := (l.map f).sum
theorem sm_nil {α : Type} (f : α → Int) : sm [] f = 0 := rfl
theorem sm_cons {α : Type} (a : α) (l : List α) (f : α → Int) : sm (a :: l) f = f a + sm l f := by simp [sm]
theorem sm_append {α : Type} (l m : List α) (f : α → Int) : sm (l ++ m) f = sm l f + sm m f := by simp [sm]
theorem sm_congr {α : Type} {l : List α} {f g : α → Int} (h : ∀ a ∈ l, f a = g a) : sm l f = sm l g := by
  unfold sm
  rw [List.map_congr_left h]
theorem sm_add {α : Type} (l : List α) (f g : α → Int) : sm l (fun a => f a + g a) = sm l f + sm l g := by
  induction l with
  | nil => rfl
  | cons a l ih => rw [sm_cons, sm_cons, sm_cons, ih]; omega
theorem sm_mul {α : Type} (l : List α) (k : Int) (f : α → Int) : sm l (fun a => k * f a) = k * sm l f := by
  induction l with
  | nil => simp [sm]
  | cons a l ih => rw [sm_cons, sm_cons, ih, Int.mul_add]
theorem sm_zero {α : Type} (l : List α) : sm l (fun _ => 0) = 0 := by
  induction l with
  | nil => rfl
  | cons a l ih => rw [sm_cons, ih]; rfl
theorem sm_comm {α β : Type} (l : List α) (m : List β) (f : α → β → Int) : sm l (fun a => sm m (f a)) = sm m (fun b => sm l fun a => f a b) := by
  induction l with
  | nil => rw [sm_nil]; exact (sm_zero m).symm
  | cons a l ih =>
    rw [sm_cons, ih, ← sm_add]
    exact sm_congr fun b _ => (sm_cons a l fun a => f a b).symm
theorem sm_flat {α β : Type} (l : List α) (g : α → List β) (f : β → Int) : sm (l.flatMap g) f = sm l (fun a => sm (g a) f) := by
  induction l with
  | nil => rfl
  | cons a l ih => rw [List.flatMap_cons, sm_append, sm_cons, ih]
theorem sm_map {α β : Type} (l : List α) (g : α → β) (f : β → Int) : sm (l.map g) f = sm l (fun a => f (g a)) := by
  unfold sm
  rw [List.map_map]
  rfl

/-! ### masks -/
def bit (c j : Nat) : Bool := decide (c / 2 ^ j % 2 = 1)
def ind : List Nat → Nat → Int
  | [], _ => 1
  | j :: J, c => if bit c j = true then ind J c else 0
theorem ind_append : ∀ (J J' : List Nat) (c : Nat), ind (J ++ J') c = ind J c * ind J' c
  | [], J', c => by simp [ind]
  | j :: J, J', c => by
    show (if bit c j = true then ind (J ++ J') c else 0) = (if bit c j = true then ind J c else 0) * ind J' c
    rw [ind_append J J' c]
    split
    · rfl
    · rw [Int.zero_mul]
def sgn (c : Nat) : Nat → Int
  | 0 => 1
  | j + 1 => if bit c j = true then 0 - sgn c j else sgn c j
def alt (n : Nat) (J : List Nat) : Int := sm (List.range (2 ^ n)) fun c => sgn c n * ind J c
theorem alt1 : alt 1 [] = 0 := by decide +kernel
theorem alt2 : ∀ a : Fin 2, alt 2 [a.val] = 0 := by decide +kernel
theorem alt3 : ∀ a b : Fin 3, alt 3 [a.val, b.val] = 0 := by decide +kernel
theorem alt4 : ∀ a b c : Fin 4, alt 4 [a.val, b.val, c.val] = 0 := by decide +kernel
theorem alt2' : alt 2 [] = 0 := by decide +kernel
theorem alt3' : alt 3 [] = 0 := by decide +kernel
theorem alt4' : alt 4 [] = 0 := by decide +kernel
theorem alt3'' : ∀ a : Fin 3, alt 3 [a.val] = 0 := by decide +kernel
theorem alt4'' : ∀ a : Fin 4, alt 4 [a.val] = 0 := by decide +kernel
theorem alt4''' : ∀ a b : Fin 4, alt 4 [a.val, b.val] = 0 := by decide +kernel
theorem alt_zero {n : Nat} {J : List Nat} (h0 : n ≤ 4) (h1 : J.length < n) (h2 : ∀ j ∈ J, j < n) : alt n J = 0 := by
  have hn : n = 1 ∨ n = 2 ∨ n = 3 ∨ n = 4 := by omega
  match J, h1, h2 with
  | [], h1, h2 =>
    rcases hn with rfl | rfl | rfl | rfl
    · exact alt1
    · exact alt2'
    · exact alt3'
    · exact alt4'
  | [a], h1, h2 =>
    have ha := h2 a (by simp)
    rcases hn with rfl | rfl | rfl | rfl
    · simp at h1
    · exact alt2 ⟨a, ha⟩
    · exact alt3'' ⟨a, ha⟩
    · exact alt4'' ⟨a, ha⟩
  | [a, b], h1, h2 =>
    have ha := h2 a (by simp)
    have hb := h2 b (by simp)
    simp only [List.length_cons, List.length_nil] at h1
    rcases hn with rfl | rfl | rfl | rfl
    · omega
    · omega
    · exact alt3 ⟨a, ha⟩ ⟨b, hb⟩
    · exact alt4''' ⟨a, ha⟩ ⟨b, hb⟩
  | [a, b, c], h1, h2 =>
    have ha := h2 a (by simp)
    have hb := h2 b (by simp)
    have hc := h2 c (by simp)
    simp only [List.length_cons, List.length_nil] at h1
    rcases hn with rfl | rfl | rfl | rfl
    · omega
    · omega
    · omega
    · exact alt4 ⟨a, ha⟩ ⟨b, hb⟩ ⟨c, hc⟩
  | a :: b :: c :: d :: r, h1, h2 =>
    simp only [List.length_cons] at h1
    omega

/-! ### polynomials in a mask's bits -/
def PD (n d : Nat) (f : Nat → Int) : Prop := ∃ L : List (Int × List Nat), (∀ p ∈ L, p.2.length ≤ d ∧ ∀ j ∈ p.2, j < n) ∧ ∀ c, c < 2 ^ n → f c = sm L fun p => p.1 * ind p.2 c
theorem PD.const (n d : Nat) (k : Int) : PD n d (fun _ => k) := ⟨[(k, [])], fun p hp => by obtain rfl := List.mem_singleton.mp hp; exact ⟨Nat.zero_le _, fun j h => nomatch h⟩, fun c _ => by simp [sm, ind]⟩
theorem PD.bit {n j : Nat} (h : j < n) (k : Int) : PD n 1 (fun c => if N97.bit c j = true then k else 0) := ⟨[(k, [j])], fun p hp => by
    obtain rfl := List.mem_singleton.mp hp
    exact ⟨Nat.le_refl _, fun i hi => by obtain rfl := List.mem_singleton.mp hi; exact h⟩, fun c _ => by
    rw [sm_cons, sm_nil]
    show (if N97.bit c j = true then k else 0) = k * (if N97.bit c j = true then 1 else 0) + 0
    split <;> simp⟩
theorem PD.mono {n d e : Nat} {f : Nat → Int} (h : PD n d f) (l : d ≤ e) : PD n e f := by
  obtain ⟨L, h1, h2⟩ := h
  exact ⟨L, fun p hp => ⟨Nat.le_trans (h1 p hp).1 l, (h1 p hp).2⟩, h2⟩
theorem PD.add {n d : Nat} {f g : Nat → Int} (h : PD n d f) (k : PD n d g) : PD n d (fun c => f c + g c) := by
  obtain ⟨L, h1, h2⟩ := h
  obtain ⟨M, k1, k2⟩ := k
  refine ⟨L ++ M, fun p hp => ?_, fun c hc => by show f c + g c = _; rw [sm_append, h2 c hc, k2 c hc]⟩
  rcases List.mem_append.mp hp with hp | hp
  · exact h1 p hp
  · exact k1 p hp
theorem PD.smul {n d : Nat} {f : Nat → Int} (k : Int) (h : PD n d f) : PD n d (fun c => k * f c) := by
  obtain ⟨L, h1, h2⟩ := h
  refine ⟨L.map fun p => (k * p.1, p.2), fun p hp => ?_, fun c hc => ?_⟩
  · obtain ⟨q, hq, rfl⟩ := List.mem_map.mp hp
    exact h1 q hq
  · show k * f c = _
    rw [sm_map, h2 c hc, ← sm_mul]
    exact sm_congr fun p _ => (Int.mul_assoc _ _ _).symm
theorem PD.mul {n d e : Nat} {f g : Nat → Int} (h : PD n d f) (k : PD n e g) : PD n (d + e) (fun c => f c * g c) := by
  obtain ⟨L, h1, h2⟩ := h
  obtain ⟨M, k1, k2⟩ := k
  refine ⟨L.flatMap fun p => M.map fun q => (p.1 * q.1, p.2 ++ q.2), fun p hp => ?_, fun c hc => ?_⟩
  · obtain ⟨a, ha, hb⟩ := List.mem_flatMap.mp hp
    obtain ⟨b, hbm, rfl⟩ := List.mem_map.mp hb
    refine ⟨?_, fun j hj => ?_⟩
    · rw [List.length_append]
      have := (h1 a ha).1
      have := (k1 b hbm).1
      omega
    · rcases List.mem_append.mp hj with hj | hj
      · exact (h1 a ha).2 j hj
      · exact (k1 b hbm).2 j hj
  · show f c * g c = _
    rw [sm_flat, h2 c hc, k2 c hc, Int.mul_comm, ← sm_mul]
    refine sm_congr fun p _ => ?_
    rw [sm_map, Int.mul_comm, ← sm_mul]
    refine sm_congr fun q _ => ?_
    show p.1 * ind p.2 c * (q.1 * ind q.2 c) = p.1 * q.1 * ind (p.2 ++ q.2) c
    rw [ind_append]
    simp only [Int.mul_assoc, Int.mul_left_comm, Int.mul_comm]
theorem PD.sum {α : Type} {n d : Nat} {f : α → Nat → Int} : ∀ {l : List α}, (∀ a ∈ l, PD n d (f a)) → PD n d (fun c => sm l fun a => f a c)
  | [], _ => PD.const n d 0
  | a :: l, h => by
    obtain ⟨L, k1, k2⟩ := (h a (List.mem_cons_self ..)).add (PD.sum (l := l) fun b hb => h b (List.mem_cons_of_mem _ hb))
    exact ⟨L, k1, fun c hc => (sm_cons a l fun a => f a c).trans (k2 c hc)⟩
theorem PD.congr {n d : Nat} {f g : Nat → Int} (h : PD n d f) (e : ∀ c, c < 2 ^ n → g c = f c) : PD n d g := by
  obtain ⟨L, h1, h2⟩ := h
  exact ⟨L, h1, fun c hc => (e c hc).trans (h2 c hc)⟩
theorem PD.zero {n d : Nat} {f : Nat → Int} (h : PD n d f) (hd : d < n) (hn : n ≤ 4) : sm (List.range (2 ^ n)) (fun c => sgn c n * f c) = 0 := by
  obtain ⟨L, h1, h2⟩ := h
  have e : sm (List.range (2 ^ n)) (fun c => sgn c n * f c) = sm L fun p => p.1 * alt n p.2 := by
    have : sm (List.range (2 ^ n)) (fun c => sgn c n * f c) = sm (List.range (2 ^ n)) (fun c => sm L fun p => p.1 * (sgn c n * ind p.2 c)) := by
      refine sm_congr fun c hc => ?_
      rw [h2 c (List.mem_range.mp hc), ← sm_mul]
      exact sm_congr fun p _ => Int.mul_left_comm _ _ _
    rw [this, sm_comm]
    exact sm_congr fun p _ => sm_mul _ _ _
  rw [e]
  rw [sm_congr (g := fun _ => 0) fun p hp => by rw [alt_zero hn (Nat.lt_of_le_of_lt (h1 p hp).1 hd) (h1 p hp).2, Int.mul_zero]]
  exact sm_zero L

/-! ### the stores of the masks -/
abbrev Chg' := Str → Option Val
def withT (S : Sto) (C : Chg') : Sto := fun t => match C t with
  | some c => mkBag (scale 1 (S t).rows ++ scale 1 c.rows)
  | none => S t
def later (S : Sto) (Cs : Nat → Chg') (c : Nat) : Nat → Sto
  | 0 => S
  | j + 1 => if bit c j = true then withT (later S Cs c j) (Cs j) else later S Cs c j
theorem rows_mk (l : List (Val × Int)) : (mkBag l).rows = bagL l := Val.spR_ofR _
theorem cnt_mk (v : Val) (l : List (Val × Int)) : cnt v (mkBag l).rows = cnt v l := by rw [rows_mk, cnt_bagL]
theorem later_same {S : Sto} {Cs : Nat → Chg'} {t : Str} {n : Nat} (h : ∀ j, j < n → Cs j t = none) (c : Nat) : later S Cs c n t = S t := by
  induction n with
  | zero => rfl
  | succ n ih =>
    have ih' := ih fun j hj => h j (by omega)
    show (if bit c n = true then withT (later S Cs c n) (Cs n) else later S Cs c n) t = _
    split
    · show (match Cs n t with | some c' => mkBag (scale 1 (later S Cs c n t).rows ++ scale 1 c'.rows) | none => later S Cs c n t) = _
      rw [h n (by omega)]
      exact ih'
    · exact ih'
theorem later_poly {S : Sto} {Cs : Nat → Chg'} {t : Str} (v : Val) (m : Nat) : ∀ {n : Nat}, n ≤ m → PD m 1 (fun c => cnt v (later S Cs c n t).rows)
  | 0, _ => PD.const m 1 (cnt v (S t).rows)
  | n + 1, h => by
    have ih := later_poly (S := S) (Cs := Cs) (t := t) v m (n := n) (by omega)
    have key : ∀ c, c < 2 ^ m → cnt v (later S Cs c (n + 1) t).rows = cnt v (later S Cs c n t).rows + (if bit c n = true then (match Cs n t with | some d => cnt v d.rows | none => 0) else 0) := by
      intro c _
      show cnt v ((if bit c n = true then withT (later S Cs c n) (Cs n) else later S Cs c n) t).rows = _
      by_cases e : bit c n = true
      · rw [if_pos e, if_pos e]
        show cnt v (match Cs n t with | some c' => mkBag (scale 1 (later S Cs c n t).rows ++ scale 1 c'.rows) | none => later S Cs c n t).rows = _
        cases hC : Cs n t with
        | none => show _ = _ + 0; rw [Int.add_zero]
        | some d =>
          show cnt v (mkBag (scale 1 (later S Cs c n t).rows ++ scale 1 d.rows)).rows = _ + cnt v d.rows
          rw [cnt_mk, cnt_append, scale_1, scale_1]
      · rw [if_neg e, if_neg e, Int.add_zero]
    exact (ih.add (PD.bit (by omega) _)).congr key
def Good : Q → Prop
  | .both a b => Good a ∧ Good b
  | .times _ q => Good q
  | .when_ t q => NoT t = true ∧ Good q
  | .let_ _ a b => NoT a = true ∧ Good b
  | .for_ _ a b => Good a ∧ Good b
  | .one q => NoT q = true
  | .att _ q => NoT q = true
  | .table _ => True
  | .var _ => True
  | .none_ _ => True
  | _ => False
theorem noT_eval : ∀ {q : Q} {ρ : Env} {S S' : Sto}, NoT q = true → eval q ρ S = eval q ρ S' := by
  intro q
  induction q with
  | table t => intro ρ S S' h; simp [NoT] at h
  | row fs ih => intro ρ S S' h; show Val.row _ = Val.row _; rw [ih (S := S) (S' := S') h]
  | fcons f q r i1 i2 =>
    intro ρ S S' h
    have h' : NoT q = true ∧ NoT r = true := by simpa [NoT] using h
    show Val.fcons _ _ _ = Val.fcons _ _ _
    rw [i1 (S := S) (S' := S') h'.1, i2 (S := S) (S' := S') h'.2]
  | att f q ih => intro ρ S S' h; show getF f (eval q ρ S).fields = getF f (eval q ρ S').fields; rw [ih (S := S) (S' := S') h]
  | add a b i1 i2 =>
    intro ρ S S' h
    have h' : NoT a = true ∧ NoT b = true := by simpa [NoT] using h
    simp only [eval]
    rw [i1 (S := S) (S' := S') h'.1, i2 (S := S) (S' := S') h'.2]
  | mul a b i1 i2 =>
    intro ρ S S' h
    have h' : NoT a = true ∧ NoT b = true := by simpa [NoT] using h
    simp only [eval]
    rw [i1 (S := S) (S' := S') h'.1, i2 (S := S) (S' := S') h'.2]
  | one q ih => intro ρ S S' h; simp only [eval]; rw [ih (S := S) (S' := S') h]
  | both a b i1 i2 =>
    intro ρ S S' h
    have h' : NoT a = true ∧ NoT b = true := by simpa [NoT] using h
    simp only [eval]
    rw [i1 (S := S) (S' := S') h'.1, i2 (S := S) (S' := S') h'.2]
  | times m q ih => intro ρ S S' h; simp only [eval]; rw [ih (S := S) (S' := S') h]
  | for_ x a b i1 i2 =>
    intro ρ S S' h
    have h' : NoT a = true ∧ NoT b = true := by simpa [NoT] using h
    simp only [eval]
    rw [i1 (S := S) (S' := S') h'.1]
    have : (fun p : Val × Int => scale p.2 (eval b (put ρ x p.1) S).rows) = fun p => scale p.2 (eval b (put ρ x p.1) S').rows := by
      funext p
      rw [i2 (S := S) (S' := S') h'.2]
    rw [this]
  | when_ t q i1 i2 =>
    intro ρ S S' h
    have h' : NoT t = true ∧ NoT q = true := by simpa [NoT] using h
    simp only [eval]
    rw [i1 (S := S) (S' := S') h'.1, i2 (S := S) (S' := S') h'.2]
  | let_ x a b i1 i2 =>
    intro ρ S S' h
    have h' : NoT a = true ∧ NoT b = true := by simpa [NoT] using h
    simp only [eval]
    rw [i1 (S := S) (S' := S') h'.1, i2 (S := S) (S' := S') h'.2]
  | same a b i1 i2 =>
    intro ρ S S' h
    have h' : NoT a = true ∧ NoT b = true := by simpa [NoT] using h
    simp only [eval]
    rw [i1 (S := S) (S' := S') h'.1, i2 (S := S) (S' := S') h'.2]
  | under a b i1 i2 =>
    intro ρ S S' h
    have h' : NoT a = true ∧ NoT b = true := by simpa [NoT] using h
    simp only [eval]
    rw [i1 (S := S) (S' := S') h'.1, i2 (S := S) (S' := S') h'.2]
  | and_ a b i1 i2 =>
    intro ρ S S' h
    have h' : NoT a = true ∧ NoT b = true := by simpa [NoT] using h
    simp only [eval]
    rw [i1 (S := S) (S' := S') h'.1, i2 (S := S) (S' := S') h'.2]
  | or_ a b i1 i2 =>
    intro ρ S S' h
    have h' : NoT a = true ∧ NoT b = true := by simpa [NoT] using h
    simp only [eval]
    rw [i1 (S := S) (S' := S') h'.1, i2 (S := S) (S' := S') h'.2]
  | not_ a ih => intro ρ S S' h; simp only [eval]; rw [ih (S := S) (S' := S') h]
  | _ => intro ρ S S' h; rfl

/-! ### sums by rows -/
def ddp : List Val → List Val
  | [] => []
  | a :: r => if a ∈ ddp r then ddp r else a :: ddp r
theorem mem_ddp {a : Val} : ∀ {l : List Val}, a ∈ ddp l ↔ a ∈ l
  | [] => Iff.rfl
  | b :: r => by
    unfold ddp
    by_cases h : b ∈ ddp r
    · rw [if_pos h, mem_ddp, List.mem_cons]
      exact ⟨.inr, fun x => x.elim (fun e => by rw [e]; exact mem_ddp.mp h) id⟩
    · rw [if_neg h, List.mem_cons, List.mem_cons, mem_ddp]
theorem nodup_ddp : ∀ l : List Val, (ddp l).Nodup
  | [] => List.nodup_nil
  | b :: r => by
    unfold ddp
    by_cases h : b ∈ ddp r
    · rw [if_pos h]; exact nodup_ddp r
    · rw [if_neg h]; exact List.nodup_cons.mpr ⟨h, nodup_ddp r⟩
theorem sm_ite {a : Val} {k : Int} {g : Val → Int} : ∀ {W : List Val}, W.Nodup → sm W (fun w => (if a = w then k else 0) * g w) = if a ∈ W then k * g a else 0
  | [], _ => rfl
  | w :: W, hn => by
    rw [List.nodup_cons] at hn
    rw [sm_cons, sm_ite hn.2]
    by_cases e : a = w
    · subst e
      rw [if_pos rfl, if_neg hn.1, if_pos (List.mem_cons_self ..), Int.add_zero]
    · rw [if_neg e, Int.zero_mul, Int.zero_add]
      by_cases h : a ∈ W
      · rw [if_pos h, if_pos (List.mem_cons_of_mem _ h)]
      · rw [if_neg h, if_neg fun z => (List.mem_cons.mp z).elim e h]
theorem sm_rows {W : List Val} (hn : W.Nodup) (g : Val → Int) : ∀ {l : List (Val × Int)}, (∀ p ∈ l, p.1 ∈ W) → sm l (fun p => p.2 * g p.1) = sm W (fun w => cnt w l * g w)
  | [], _ => by
    rw [sm_nil]
    rw [sm_congr (g := fun _ => 0) fun w _ => by rw [cnt_nil, Int.zero_mul]]
    exact (sm_zero W).symm
  | p :: l, h => by
    rw [sm_cons, sm_rows hn g fun q hq => h q (List.mem_cons_of_mem _ hq)]
    have e : sm W (fun w => cnt w (p :: l) * g w) = sm W (fun w => (if p.1 = w then p.2 else 0) * g w) + sm W (fun w => cnt w l * g w) := by
      rw [← sm_add]
      exact sm_congr fun w _ => by rw [cnt_cons, Int.add_mul]
    rw [e, sm_ite hn, if_pos (h p (List.mem_cons_self ..))]
theorem cnt_flat (v : Val) {α : Type} (l : List α) (g : α → List (Val × Int)) : cnt v (l.flatMap g) = sm l (fun a => cnt v (g a)) := by
  induction l with
  | nil => rfl
  | cons a l ih => rw [List.flatMap_cons, cnt_append, sm_cons, ih]
/-- a count in an even question's answer is a polynomial of the degree that is told -/
theorem poly {S : Sto} {Cs : Nat → Chg'} {n : Nat} {ns : List Str} (hC : ∀ j, j < n → ∀ t, t ∉ ns → Cs j t = none) : ∀ {q : Q}, Good q → ∀ (ρ : Env) (v : Val), PD n (degQ ns q) (fun c => cnt v (eval q ρ (later S Cs c n)).rows) := by
  intro q
  induction q with
  | table t =>
    intro _ ρ v
    show PD n (if t ∈ ns then 1 else 0) (fun c => cnt v (later S Cs c n t).rows)
    by_cases h : t ∈ ns
    · rw [if_pos h]
      exact later_poly v n (Nat.le_refl n)
    · rw [if_neg h]
      exact (PD.const n 0 (cnt v (S t).rows)).congr fun c _ => by rw [later_same (fun j hj => hC j hj t h)]
  | var x => intro _ ρ v; exact PD.const n 0 (cnt v ((ρ x).getD .nil).rows)
  | none_ k => intro _ ρ v; exact PD.const n 0 (cnt v (mkBag []).rows)
  | att f q ih =>
    intro h ρ v
    exact (PD.const n 0 (cnt v (eval (.att f q) ρ S).rows)).congr fun c _ => by
      rw [noT_eval (q := .att f q) (S := later S Cs c n) (S' := S) h]
  | one q ih =>
    intro h ρ v
    exact (PD.const n 0 (cnt v (eval (.one q) ρ S).rows)).congr fun c _ => by
      rw [noT_eval (q := .one q) (S := later S Cs c n) (S' := S) h]
  | both a b i1 i2 =>
    intro h ρ v
    refine (((i1 h.1 ρ v).mono (Nat.le_max_left _ _)).add ((i2 h.2 ρ v).mono (Nat.le_max_right _ _))).congr fun c _ => ?_
    show cnt v (mkBag _).rows = _
    rw [cnt_mk, cnt_append, scale_1, scale_1]
  | times m q ih =>
    intro h ρ v
    refine ((ih h ρ v).smul m).congr fun c _ => ?_
    show cnt v (mkBag _).rows = _
    rw [cnt_mk, cnt_scale]
  | when_ t q i1 i2 =>
    intro h ρ v
    by_cases e : isT (eval t ρ S) = true
    · refine (i2 h.2 ρ v).congr fun c _ => ?_
      show cnt v (if isT (eval t ρ (later S Cs c n)) = true then eval q ρ (later S Cs c n) else mkBag []).rows = _
      rw [noT_eval (q := t) (S := later S Cs c n) (S' := S) h.1, if_pos e]
    · refine ((PD.const n 0 0).mono (Nat.zero_le _)).congr fun c _ => ?_
      show cnt v (if isT (eval t ρ (later S Cs c n)) = true then eval q ρ (later S Cs c n) else mkBag []).rows = _
      rw [noT_eval (q := t) (S := later S Cs c n) (S' := S) h.1, if_neg e, cnt_mk]
      rfl
  | let_ x a b i1 i2 =>
    intro h ρ v
    refine (i2 h.2 (put ρ x (eval a ρ S)) v).congr fun c _ => ?_
    show cnt v (eval b (put ρ x (eval a ρ (later S Cs c n))) (later S Cs c n)).rows = _
    rw [noT_eval (q := a) (S := later S Cs c n) (S' := S) h.1]
  | for_ x a b i1 i2 =>
    intro h ρ v
    refine (PD.sum (l := ddp ((List.range (2 ^ n)).flatMap fun c => ((eval a ρ (later S Cs c n)).rows.map (·.1)))) (f := fun w c => cnt w (eval a ρ (later S Cs c n)).rows * cnt v (eval b (put ρ x w) (later S Cs c n)).rows)
      fun w _ => (i1 h.1 ρ w).mul (i2 h.2 (put ρ x w) v)).congr fun c hc => ?_
    show cnt v (mkBag _).rows = _
    rw [cnt_mk, cnt_flat]
    rw [← sm_rows (nodup_ddp _) (fun w => cnt v (eval b (put ρ x w) (later S Cs c n)).rows) (l := (eval a ρ (later S Cs c n)).rows) fun p hp => mem_ddp.mpr (List.mem_flatMap.mpr ⟨c, List.mem_range.mpr hc, List.mem_map.mpr ⟨p, hp, rfl⟩⟩)]
    exact sm_congr fun p _ => cnt_scale v p.2 _
  | _ => intro h; exact absurd h (by simp [Good])
/-- the even questions that the asking yields are good -/
theorem Gen.good {m : Mode} {Γ : Ctx} {f : Nat} {q : Q} (g : Gen m Γ f q) : match m with
    | .ask (.bag _) => evenQ q = true → Good q
    | .ovr _ => evenQ q = true → Good q
    | _ => True := by
  induction g with
  | ovar _ => intro _; trivial
  | oat _ => intro _; rfl
  | otab _ => intro _; trivial
  | oask _ _ ih => exact ih
  | @asml Γ f k q hn _ _ =>
    cases k with
    | bag k' => exact absurd rfl (hn k')
    | _ => trivial
  | aheld h =>
    intro _
    rcases h with ⟨x, _, rfl⟩ | ⟨x, _, f, _, _, rfl⟩
    · trivial
    · rfl
  | atab _ => intro _; trivial
  | aone0 _ _ =>
    intro h
    simp only [evenQ, Bool.and_eq_true] at h
    exact h.1
  | anone => intro _; trivial
  | aboth _ _ i1 i2 =>
    intro h
    simp only [evenQ, Bool.and_eq_true] at h
    exact ⟨i1 h.1, i2 h.2⟩
  | atimes _ _ ih => intro h; exact ih h
  | awhen g1 _ _ i2 =>
    intro h
    simp only [evenQ, Bool.and_eq_true] at h
    exact ⟨g1.noT h.1, i2 h.2⟩
  | aone _ _ =>
    intro h
    simp only [evenQ, Bool.and_eq_true] at h
    exact h.1
  | ataken _ _ _ _ _ _ =>
    intro h
    simp only [evenQ, Bool.and_eq_true] at h
    exact h.1
  | alet _ _ _ _ i2 =>
    intro h
    simp only [evenQ, Bool.and_eq_true] at h
    exact ⟨h.1, i2 h.2.2⟩
  | afor _ _ i1 i2 =>
    intro h
    simp only [evenQ, Bool.and_eq_true] at h
    exact ⟨i1 h.1, i2 h.2⟩
  | _ => trivial
theorem deg_mono {ns ms : List Str} (h : ∀ t ∈ ns, t ∈ ms) : ∀ q : Q, degQ ns q ≤ degQ ms q := by
  intro q
  induction q with
  | table t =>
    show (if t ∈ ns then 1 else 0) ≤ if t ∈ ms then 1 else 0
    by_cases e : t ∈ ns
    · rw [if_pos e, if_pos (h t e)]; exact Nat.le_refl _
    · rw [if_neg e]; exact Nat.zero_le _
  | both a b i1 i2 => simp only [degQ]; omega
  | times m q ih => exact ih
  | when_ t q _ ih => exact ih
  | for_ x a b i1 i2 => simp only [degQ]; omega
  | let_ x a b _ ih => exact ih
  | _ => exact Nat.le_refl _
end N97

/-! KaG8 -/
set_option maxRecDepth 100000
set_option maxHeartbeats 1000000
namespace N97
open PySem PySem.W PyProof.Rows

/-- the question that the law goes on with -/
def Fin97 (q : Q) : Prop := (∃ k f, f ≤ 3 ∧ k.rank ≤ 4 ∧ Gen (.ask (.bag k)) [] f q) ∧ evenQ q = true ∧ degQ T5 q < 4
theorem withT_eq (S : Sto) (C : Chg) : withT S C = withS S C := rfl
theorem later_ok {S : Sto} {Cs : Nat → Chg} {ns : List Str} (hS : SOk 3 100 S) : ∀ {n : Nat}, n ≤ 4 → (∀ j, j < n → COk ns (Cs j)) → ∀ c, SOk (3 + 3 * n) (100 + 4 * n) (later S Cs c n)
  | 0, _, _, _ => hS
  | n + 1, h, hC, c => by
    have ih := later_ok hS (n := n) (by omega) (fun j hj => hC j (by omega)) c
    show SOk _ _ (if bit c n = true then withT (later S Cs c n) (Cs n) else later S Cs c n)
    split
    · rw [withT_eq]
      have := ih.withS (hC n (by omega)) (by omega) (by omega)
      intro t k hk
      exact (this t k hk).mono (by omega) (Nat.le_refl _) (by omega)
    · intro t k hk
      exact (ih t k hk).mono (by omega) (Nat.le_refl _) (by omega)
theorem later_sto {S : Sto} {Cs : Nat → Chg} {ns : List Str} (hS : SOk 3 100 S) {n : Nat} (h : n ≤ 4) (hC : ∀ j, j < n → COk ns (Cs j)) (c : Nat) : StoT (later S Cs c n) := fun t k hk =>
  (later_ok hS h hC c t k hk).mono (by omega) (Nat.le_refl _) (by omega)
def E0v : Env := fun _ => none
/-- the answer at a mask -/
theorem fin_ans {q : Q} (h : Fin97 q) : q.isQ = true ∧ q.prop = true ∧ WF q ∧ q.dep ≤ 80 ∧ q.sz ≤ 1000000 ∧ ∃ k : Kd, k.rank ≤ 4 ∧ ∀ S, StoT S → Safe q E0v S ∧ BOk 759375 225 6270 k (eval q E0v S) := by
  obtain ⟨⟨k, f, hf, hk, g⟩, he, hd⟩ := h
  have hw := g.wf
  refine ⟨hw.1 rfl, hw.q.1, hw.2.2, ?_, ?_, k, hk, fun S hS => ?_⟩
  · have := g.dep
    simp only [Mode.lim] at this
    omega
  · have h1 := g.sz (fun p h => nomatch h) (Nat.succ_le_succ hk)
    have h2 := SZ_le (f := f) (k := .bag k) (Nat.succ_le_succ hk)
    have h3 : 6 ^ f ≤ 6 ^ 3 := Nat.pow_le_pow_right (by decide) hf
    have h4 : (6 : Nat) ^ 3 = 216 := by decide
    simp only [Mode.szl] at h1
    omega
  · have hT : TB f 120 ≤ 6270 := by
      have : f = 0 ∨ f = 1 ∨ f = 2 ∨ f = 3 := by omega
      rcases this with rfl | rfl | rfl | rfl <;> decide
    obtain ⟨s, v, _⟩ := g.ok (fun p h => nomatch h) he 2 120 E0v S ⟨Nat.le_refl _, by decide, fun _ => by decide⟩ (Nat.le_refl _) (fun x k h => nomatch h) hS hk hf (by omega)
    refine ⟨s, v.mono (Wd_le f) ?_ hT⟩
    unfold IW
    split <;> omega
/-- the rows of the masks below i -/
def allc (q : Q) (S : Sto) (Cs : Nat → Chg) (n i : Nat) : List (Val × Int) := (List.range i).flatMap fun c => scale (sgn c n) (eval q E0v (later S Cs c n)).rows
theorem allc_succ (q : Q) (S : Sto) (Cs : Nat → Chg) (n i : Nat) : allc q S Cs n (i + 1) = allc q S Cs n i ++ scale (sgn i n) (eval q E0v (later S Cs i n)).rows := by
  unfold allc
  rw [List.range_succ, List.flatMap_append, List.flatMap_cons, List.flatMap_nil, List.append_nil]
theorem allc_facts {q : Q} (h : Fin97 q) {S : Sto} {Cs : Nat → Chg} {ns : List Str} (hS : SOk 3 100 S) {n : Nat} (hn : n ≤ 4) (hC : ∀ j, j < n → COk ns (Cs j)) :
    ∃ k : Kd, k.rank ≤ 4 ∧ ∀ i, (allc q S Cs n i).length ≤ i * 759375 ∧ ∀ p ∈ allc q S Cs n i, HasK k p.1 := by
  obtain ⟨_, _, _, _, _, k, hk, hq⟩ := fin_ans h
  refine ⟨k, hk, fun i => ?_⟩
  have each : ∀ c, (scale (sgn c n) (eval q E0v (later S Cs c n)).rows).length ≤ 759375 ∧ ∀ p ∈ scale (sgn c n) (eval q E0v (later S Cs c n)).rows, HasK k p.1 := fun c => by
    obtain ⟨l, _, r, h1, h2⟩ := (hq _ (later_sto hS hn hC c)).2.rows'
    rw [r, scale_len']
    refine ⟨h1, fun p hp => ?_⟩
    obtain ⟨p', hp', rfl⟩ := List.mem_map.mp hp
    exact (h2 p' hp').1.hasK (by decide)
  refine ⟨?_, fun p hp => ?_⟩
  · have := flat_len (n := 759375) (l := List.range i) (g := fun c => scale (sgn c n) (eval q E0v (later S Cs c n)).rows) fun c _ => (each c).1
    rw [List.length_range] at this
    exact this
  · obtain ⟨c, _, hp⟩ := List.mem_flatMap.mp hp
    exact (each c).2 p hp
/-- the law -/
theorem allc_zero {q : Q} (h : Fin97 q) {S : Sto} {Cs : Nat → Chg} {ns : List Str} (hS : SOk 3 100 S) (hns : ∀ t ∈ ns, t ∈ T5) {n : Nat} (en : n = degQ ns q + 1) (hC : ∀ j, j < n → COk ns (Cs j)) : bagL (allc q S Cs n (2 ^ n)) = [] := by
  have hd := deg_mono hns q
  have h3 := h.2.2
  have hn : n ≤ 4 := by omega
  obtain ⟨k, _, hf⟩ := allc_facts h hS hn hC
  refine bagL_zero (k := k) (hf _).2 fun v => ?_
  obtain ⟨⟨k', f, _, _, g⟩, he, _⟩ := h
  have hp := poly (S := S) (Cs := Cs) (n := n) (ns := ns) (fun j hj t ht => (hC j hj).2 t ht) (g.good he) E0v v
  unfold allc
  rw [cnt_flat]
  rw [sm_congr (g := fun c => sgn c n * cnt v (eval q E0v (later S Cs c n)).rows) fun c _ => cnt_scale v _ _]
  exact hp.zero (by omega) hn
end N97

/-! KaWj -/
set_option maxRecDepth 100000
set_option maxHeartbeats 8000000
namespace N97
open PySem PySem.Spec PyProof.Rows L2
abbrev sFst : Stmt := topS 33
abbrev nFst : List Str := ["cell", "k", "seed", "kind", "asked"]
theorem scFst : FnScope nFst ["cell"] (defScope sFst) := ⟨rfl, rfl, rfl, by decide +kernel, rfl, by decide +kernel, by decide +kernel⟩
def spFst : Sp := fun vs H Q _ => ∃ c : Int, vs = [.int c] ∧ ∀ r H' q, Same H H' → Tp H' r (N97.Q.enc q) → Fin97 q → Q r H'
theorem same_sx {H H1 H2 : Hp} {sd : Addr} (s : Same H H1) (h : H sd = none) (x : SX sd H1 H2) : Same H H2 := fun b o e => x.1 b o (ne_of_none e h) (s b o e)
theorem none_back {H H1 : Hp} {p : Addr} (s : Same H H1) (h : H1 p = none) : H p = none := by
  cases e : H p with
  | none => rfl
  | some o =>
    have := s _ _ e
    rw [h] at this
    cases this
theorem gen_facts {q : N97.Q} {k : Kd} {f : Nat} (hf : f ≤ 3) (hk : k.rank ≤ 4) (g : Gen (.ask (.bag k)) [] f q) : q.prop = true ∧ WF q ∧ q.dep ≤ 80 ∧ q.sz ≤ 1000000 := by
  have hw := g.wf
  refine ⟨hw.q.1, hw.2.2, ?_, ?_⟩
  · have := g.dep
    simp only [Mode.lim] at this
    omega
  · have h1 := g.sz (fun p h => nomatch h) (Nat.succ_le_succ hk)
    have h2 := SZ_le (f := f) (k := .bag k) (Nat.succ_le_succ hk)
    have h3 : 6 ^ f ≤ 6 ^ 3 := Nat.pow_le_pow_right (by decide) hf
    have h4 : (6 : Nat) ^ 3 = 216 := by decide
    simp only [Mode.szl] at h1
    omega
section
variable {P : Program} {w : World} {K : PySem.W.Frag} {mg : Str → Option Value} {base : Heap}
theorem ok_fst {f fE fD fG fA fS fK : Addr} {fd fdE fdD fdG fdA fdS fdK : FuncData} (F : Fun K "_law_first_even" "_law_first_even" sFst f fd)
    (GE : FnOk P w K mg base CX0 82 fE fdE ["question"] (spEvn 80)) (bE : Binds K fdE ["question"] []) (kE : PySem.W.keepIn K (.ref fE) = true) (mE : mg "is_even" = some (.ref fE))
    (GG : FnOk P w K mg base CX0 80 fG fdG ["question", "names"] (spDeg 80)) (bG : Binds K fdG ["question", "names"] []) (kG : PySem.W.keepIn K (.ref fG) = true) (mG : mg "degree" = some (.ref fG))
    (GA : FnOk P w K mg base CX0 100 fA fdA ["kind", "scope", "fuel", "seed"] (spAsk 80)) (bA : Binds K fdA ["kind", "scope", "fuel", "seed"] []) (kA : PySem.W.keepIn K (.ref fA) = true) (mA : mg "_law_asked" = some (.ref fA))
    (GS : FnOk P w K mg base CX0 1 fS fdS ["cell"] spSeed) (bS : Binds K fdS ["cell"] []) (kS : PySem.W.keepIn K (.ref fS) = true) (mS : mg "_law_seed" = some (.ref fS))
    (GK : FnOk P w K mg base CX0 1 fK fdK [] spKds) (bK : Binds K fdK [] []) (kK : PySem.W.keepIn K (.ref fK) = true) (mK : mg "_law_kinds" = some (.ref fK))
    (GD : FnOk P w K mg base CX0 1 fD fdD ["seed", "most"] spDraw) (bD : Binds K fdD ["seed", "most"] []) (kD : PySem.W.keepIn K (.ref fD) = true) (mD : mg "_law_draw" = some (.ref fD))
    (mr : mg "range" = none) : FnOk P w K mg base CX0 101 f fd ["cell"] spFst := by
  refine F.ok scFst (fun vs H Q E h => ?_) (fun cdv A outer s H vs Q E hr h => ?_)
  · obtain ⟨c, rfl, _⟩ := h
    rfl
  obtain ⟨c, rfl, q⟩ := h
  have hr1 := hr.mono (show 1 ≤ 100 by decide)
  refine ⟨_, pss_cons (ps_for PassesOwn.never rfl (pi_range1 rfl mr (pa_cons pe_int pa_nil)) (pg_name (i := 1) scFst.nd rfl (.inl rfl))
      (pss_cons (ps_set (i := 2) scFst.nd rfl (.inl rfl) (pe_call GS hr1 rfl mS kS bS .nil pass0 (pa_cons (pe_op op_add (pv 0) (pe_op op_mul pe_int (pv 1))) pa_nil)))
      (pss_cons (ps_set (i := 3) scFst.nd rfl (.inl rfl) (pe_tupF (pa_cons pe_str (pa_cons (pe_dget (hu_of hr) (pe_call0 GK hr1 rfl mK kK bK .nil pass0) (pe_ix ix_list (pe_lst (pa_cons pe_str (pa_cons pe_str pa_nil))) (pe_call GD hr1 rfl mD kD bD .nil pass0 (pa_cons (pv 2) (pa_cons pe_int pa_nil))) (fun _ _ => rfl)) (fun _ _ => rfl)) pa_nil))))
      (pss_cons (ps_set (i := 4) scFst.nd rfl (.inl rfl) (pe_call GA hr rfl mA kA bA .nil pass0 (pa_cons (pv 3) (pa_cons (pe_lst pa_nil) (pa_cons (pe_op op_add pe_int (pe_call GD hr1 rfl mD kD bD .nil pass0 (pa_cons (pv 2) (pa_cons pe_int pa_nil)))) (pa_cons (pv 2) pa_nil))))))
      (pss_one (ps_if (PW.pt (pw_and (pt_val (pe_call GE (hr.mono (by decide)) rfl mE kE bE .nil pass0 (pa_cons (pv 4) pa_nil))) (pw_and1 (pt_cmpR op_lt (pe_call GG (hr.mono (by decide)) rfl mG kG bG .nil pass0 (pa_cons (pv 4) (pa_cons (pe_lst (pa_cons pe_str (pa_cons pe_str (pa_cons pe_str (pa_cons pe_str (pa_cons pe_str pa_nil)))))) pa_nil))) pe_int (nomark _)))))
        (pss_one (ps_ret (pv 4))) pss_nil))))))
    (pss_one (ps_ret (pe_conT (pa_con pe_conS (pa_con pe_conS pa_conN))))), ?_⟩
  refine ⟨8, rfl, by decide, by decide, ?_⟩
  refine for_range (fun i σ H2 => ∃ y1 y2 y3 y4, σ = [some (.int c), y1, y2, y3, y4] ∧ Same H H2) ⟨none, none, none, none, rfl, .refl H⟩ (fun i σ H2 hi p => ?_) (fun σ H2 p => ?_)
  · obtain ⟨y1, y2, y3, y4, rfl, s2⟩ := p
    have hi' : i < 8 := hi
    refine ⟨_, rfl, _, rfl, _, _, rfl, rfl, .inl ⟨by decide, by decide⟩, _, _, rfl, rfl, _, rfl, fun sd H3 s3 hsd hS => ?_⟩
    have sA := s2.trans s3
    have hsdH : H sd = none := none_back s2 hsd
    refine ⟨rfl, fun pk H4 s4 kd4 => ⟨two_le, fun L hL => ?_⟩⟩
    have x4 := SX.ofSame hS (s4.trans (same_new hL (.lst [.str "r", .str "t"])))
    have kd4' := kd4.same (same_new hL (.lst [.str "r", .str "t"]))
    refine ⟨_, rfl, sd, 2, rfl, x4.2, by decide, by decide, fun r5 H5 h50 h51 x5 => ?_⟩
    have x5' := x4.trans x5
    have hL5 := x5.1 _ _ ((hS.same s4).ne hL).symm upd_same
    obtain ⟨v, hv, hm⟩ := atI_mem (xs := [V.str "r", .str "t"]) h50 h51
    obtain ⟨t, k, rfl, hk⟩ : ∃ t k, v = .str t ∧ kdOf t = some k := by
      simp only [List.mem_cons, List.not_mem_nil, or_false] at hm
      rcases hm with rfl | rfl <;> exact ⟨_, _, rfl, rfl⟩
    obtain ⟨u, hg, hu⟩ := (kd4'.sx x4.2 x5).get hk
    have hkr := kdOf_rank hk
    refine ⟨L, _, _, _, rfl, rfl, SqL.of hL5, hv, pk, u, rfl, hg, two_le, fun p6 o6 hp6 no6 => ?_⟩
    have s6 := same_new hp6 (.frz o6 (.tup [.str "bag", u]))
    have x6 := x5'.same s6
    have tk : Tp (upd H5 p6 (.frz o6 (.tup [.str "bag", u]))) (.ref p6) (Kd.bag k).enc := .new hp6 no6 (.cons (.str _) (.cons hu .nil))
    generalize (upd H5 p6 (.frz o6 (.tup [.str "bag", u]))) = H6 at s6 x6 tk ⊢
    refine ⟨_, rfl, Nat.zero_le _, fun sc hsc => ?_⟩
    have s7 := same_new hsc (.lst [])
    have x7 := x6.same s7
    refine ⟨_, rfl, sd, 3, rfl, x7.2, by decide, by decide, fun r8 H8 h80 h81 x8 => ⟨_, _, rfl, rfl, _, rfl, ?_⟩⟩
    have x8' := x7.trans x8
    have hscs : sc ≠ sd := (x6.2.ne hsc).symm
    have hsc8 := x8.1 _ _ hscs upd_same
    have hf3 : (1 + r8).toNat ≤ 3 := by omega
    refine ⟨_, sc, sd, 1 + r8, .bag k, [], rfl, ?_, Nat.succ_le_succ hkr, ⟨by show 0 + (1 + r8).toNat ≤ 60; omega, fun p h => nomatch h⟩, (tk.mono s7.fs).mono (x8.fs x7.2), ⟨[], hsc8, .nil⟩, x8'.2, fun r9 H9 q9 x9 t9 g9 => ?_⟩
    · simp only [Mode.lim]
      omega
    have sB : Same H H9 := same_sx sA hsdH (x8'.trans x9)
    obtain ⟨h1, h2, h3, h4⟩ := gen_facts hf3 hkr g9
    refine ⟨_, rfl, r9, q9, rfl, h1, h2, h3, h4, t9, fun Ha sa => ⟨_, rfl, ?_⟩⟩
    cases he : evenQ q9 with
    | false => exact iteF (iteF ⟨_, _, _, _, rfl, sB.trans sa⟩)
    | true =>
      refine iteT ?_
      refine ⟨_, rfl, five_le, fun Ln hLn => ?_⟩
      have sb := same_new hLn (.lst [.str "r", .str "s", .str "t", .str "u", .str "v"])
      refine ⟨r9, Ln, q9, T5, rfl, h1, h2, h3, t9.mono (sa.trans sb).fs, upd_same, fun Hc sc' => ?_⟩
      have sC := sB.trans (sa.trans (sb.trans sc'))
      refine ⟨_, _, rfl, rfl, _, rfl, ?_⟩
      refine ite2 (fun c => ?_) (fun c => ⟨_, _, _, _, rfl, sC⟩)
      have c' : ((degQ T5 q9 : Nat) : Int) < 4 := of_decide_eq_true c
      exact ⟨_, rfl, q r9 Hc q9 sC (t9.mono (sa.trans (sb.trans sc')).fs) ⟨⟨k, _, hf3, hkr, g9⟩, he, by omega⟩⟩
  · obtain ⟨y1, y2, y3, y4, rfl, s2⟩ := p
    intro v H3 s3 t3
    exact q v H3 (.table "t") (s2.trans s3) t3 ⟨⟨.num, 0, by decide, by decide, .atab rfl⟩, rfl, by decide⟩
end
end N97

/-! KaWk -/
set_option maxRecDepth 100000
set_option maxHeartbeats 8000000
namespace N97
open PySem PySem.Spec PyProof.Rows L2
abbrev sLaw : Stmt := topS 34
abbrev nLaw : List Str := ["script", "asked", "k", "seed", "store", "names", "changes", "counts", "choice", "later", "sign", "j"]
theorem scLaw : FnScope nLaw ["script"] (defScope sLaw) := ⟨rfl, rfl, rfl, by decide +kernel, rfl, by decide +kernel, by decide +kernel⟩
def spLaw (K : PySem.W.Frag) : Sp := fun vs H Q _ => ∃ (a : Addr) (ns : List Int), vs = [.ref a] ∧ SqL K H a (ns.map V.int) ∧ ns.length ≤ 63 ∧ ∀ H', Q (.bl true) H'
theorem bit_test (i j : Nat) : decide (V.int (Builtin.bitAnd ((0 + (i : Int)) / 2 ^ (0 + (j : Int)).toNat) 1) = V.int 1) = bit i j := by
  rw [Int.zero_add, Int.zero_add, Int.toNat_natCast]
  have e : Builtin.bitAnd ((i : Int) / 2 ^ j) 1 = ((i / 2 ^ j % 2 : Nat) : Int) := by
    rw [PyProof.Rows.bitAnd_m1]
    have : ((2 : Int) ^ j) = ((2 ^ j : Nat) : Int) := by rw [Int.natCast_pow]; rfl
    rw [this]
    omega
  rw [e]
  unfold bit
  by_cases h : i / 2 ^ j % 2 = 1
  · rw [decide_eq_true h, decide_eq_true (by rw [h]; rfl)]
  · rw [decide_eq_false h, decide_eq_false fun z => h (by have := V.int.inj z; omega)]
theorem sgn_abs (c : Nat) : ∀ n, (sgn c n).natAbs = 1
  | 0 => rfl
  | n + 1 => by
    show (if bit c n = true then 0 - sgn c n else sgn c n).natAbs = 1
    have := sgn_abs c n
    split <;> omega
theorem pow_le16 {n : Nat} (h : n ≤ 4) : 2 ^ n ≤ 16 := Nat.pow_le_pow_right (n := 2) (by decide) h
theorem SqL.same {K : PySem.W.Frag} {H H' : Hp} {a : Addr} {xs : List V} (s : Same H H') (h : SqL K H a xs) : SqL K H' a xs := s.seq h
section
variable {P : Program} {w : World} {K : PySem.W.Frag} {mg : Str → Option Value} {base : Heap}
theorem ok_law {f fF fC fS fO fN fX fG fW fA fB fD : Addr} {fd fdF fdC fdS fdO fdN fdX fdG fdW fdA fdB fdD : FuncData} (F : Fun K "law" "law" sLaw f fd)
    (GF : FnOk P w K mg base CX0 101 fF fdF ["cell"] spFst) (bF : Binds K fdF ["cell"] []) (kF : PySem.W.keepIn K (.ref fF) = true) (mF : mg "_law_first_even" = some (.ref fF))
    (GC : FnOk P w K mg base CX0 1 fC fdC ["script", "k"] (spCell K)) (bC : Binds K fdC ["script", "k"] []) (kC : PySem.W.keepIn K (.ref fC) = true) (mC : mg "_law_cell_at" = some (.ref fC))
    (GS : FnOk P w K mg base CX0 1 fS fdS ["cell"] spSeed) (bS : Binds K fdS ["cell"] []) (kS : PySem.W.keepIn K (.ref fS) = true) (mS : mg "_law_seed" = some (.ref fS))
    (GO : FnOk P w K mg base CX0 18 fO fdO ["seed"] spSto) (bO : Binds K fdO ["seed"] []) (kO : PySem.W.keepIn K (.ref fO) = true) (mO : mg "_law_store" = some (.ref fO))
    (GN : FnOk P w K mg base CX0 2 fN fdN ["seed", "mark"] spNms) (bN : Binds K fdN ["seed", "mark"] []) (kN : PySem.W.keepIn K (.ref fN) = true) (mN : mg "_law_names" = some (.ref fN))
    (GX : FnOk P w K mg base CX0 18 fX fdX ["seed", "names", "way"] spChg) (bX : Binds K fdX ["seed", "names", "way"] []) (kX : PySem.W.keepIn K (.ref fX) = true) (mX : mg "_law_change" = some (.ref fX))
    (GG : FnOk P w K mg base CX0 80 fG fdG ["question", "names"] (spDeg 80)) (bG : Binds K fdG ["question", "names"] []) (kG : PySem.W.keepIn K (.ref fG) = true) (mG : mg "degree" = some (.ref fG))
    (GW : FnOk P w K mg base CX0 10 fW fdW ["store", "change"] spWth) (bW : Binds K fdW ["store", "change"] []) (kW : PySem.W.keepIn K (.ref fW) = true) (mW : mg "_law_with" = some (.ref fW))
    (GA : FnOk P w K mg base CX0 170 fA fdA ["asked", "values", "store"] (spAns 80)) (bA : Binds K fdA ["asked", "values", "store"] []) (kA : PySem.W.keepIn K (.ref fA) = true) (mA : mg "_law_answer" = some (.ref fA))
    (GB : FnOk P w K mg base CX0 9 fB fdB ["counts"] spBag) (bB : Binds K fdB ["counts"] []) (kB : PySem.W.keepIn K (.ref fB) = true) (mB : mg "_law_bag" = some (.ref fB))
    (GD : FnOk P w K mg base CX0 1 fD fdD ["counts", "bag", "many"] spAdd) (bD : Binds K fdD ["counts", "bag", "many"] []) (kD : PySem.W.keepIn K (.ref fD) = true) (mD : mg "_law_add" = some (.ref fD))
    (mr : mg "range" = none) (ml : mg "len" = none) (ms : mg "sorted" = none) : FnOk P w K mg base CX0 171 f fd ["script"] (spLaw K) := by
  refine F.ok scLaw (fun vs H Q E h => ?_) (fun cdv A outer s H vs Q E hr h => ?_)
  · obtain ⟨a, ns, rfl, _⟩ := h
    rfl
  obtain ⟨a, sc, rfl, hSc, _, q⟩ := h
  have hr1 := hr.mono (show 1 ≤ 170 by decide)
  have hr18 := hr.mono (show 18 ≤ 170 by decide)
  have hu : (A.deeper (envOfC "law" (defScope sLaw) s.heap.objs.size f cdv)).units + 200 < cLine := by have := hr.un; omega
  refine ⟨_, pss_cons (ps_set (i := 1) scLaw.nd rfl (.inl rfl) (pe_call GF (hr.mono (by decide)) rfl mF kF bF .nil pass0 (pa_cons (pe_call GC hr1 rfl mC kC bC .nil pass0 (pa_cons (pv 0) (pa_cons pe_int pa_nil))) pa_nil)))
    (pss_cons (ps_for PassesOwn.never rfl (pi_range1 rfl mr (pa_cons pe_int pa_nil)) (pg_name (i := 2) scLaw.nd rfl (.inl rfl))
      (pss_cons (ps_set (i := 3) scLaw.nd rfl (.inr rfl) (pe_call GS hr1 rfl mS kS bS .nil pass0 (pa_cons (pe_op op_add (pe_call GC hr1 rfl mC kC bC .nil pass0 (pa_cons (pv 0) (pa_cons (pe_op op_add pe_int (pv 2)) pa_nil))) (pv 2)) pa_nil)))
      (pss_cons (ps_set (i := 4) scLaw.nd rfl (.inl rfl) (pe_call GO hr18 rfl mO kO bO .nil pass0 (pa_cons (pv 3) pa_nil)))
      (pss_cons (ps_set (i := 5) scLaw.nd rfl (.inr rfl) (pe_callB (call_sortedD rfl) (by rfl) ms (by decide +kernel) (pa_cons (pe_call GN (hr.mono (by decide)) rfl mN kN bN .nil pass0 (pa_cons (pv 3) (pa_cons pe_str pa_nil))) pa_nil)))
      (pss_cons (ps_setLc (i := 6) (own := [("j", 11)]) (g := gName 11) (tt := tYes) rfl scLaw.nd rfl rfl (sw_true rfl rfl rfl rfl)
          (pi_range1 rfl mr (pa_cons (pe_op op_add (pe_call GG (hr.mono (by decide)) rfl mG kG bG .nil pass0 (pa_cons (pv 1) (pa_cons (pv 5) pa_nil))) pe_int) pa_nil)) (blkOk_by (N := nLaw) (sc := defScope sLaw) (by decide +kernel))
          (fun _ _ _ _ _ => pg_name (i := 11) scLaw.nd rfl (.inl rfl)) (fun _ _ _ _ _ => pts_nil)
          (fun _ _ _ _ _ => pe_call GX hr18 rfl mX kX bX .nil pass0 (pa_cons (pv 3) (pa_cons (pv 5) (pa_cons pe_int pa_nil)))))
      (pss_cons (ps_set (i := 7) scLaw.nd rfl (.inl rfl) (pe_lst pa_nil))
      (pss_cons (ps_for PassesOwn.never rfl (pi_range1 rfl mr (pa_cons (pe_op op_shl pe_int (pe_callB call_len_seq (by rfl) ml PySem.boot_len (pa_cons (pv 6) pa_nil))) pa_nil)) (pg_name (i := 8) scLaw.nd rfl (.inl rfl))
        (pss_cons (ps_set (i := 9) scLaw.nd rfl (.inl rfl) (pv 4))
        (pss_cons (ps_set (i := 10) scLaw.nd rfl (.inl rfl) pe_int)
        (pss_cons (ps_for PassesOwn.never rfl (pi_range1 rfl mr (pa_cons (pe_callB call_len_seq (by rfl) ml PySem.boot_len (pa_cons (pv 6) pa_nil)) pa_nil)) (pg_name (i := 11) scLaw.nd rfl (.inl rfl))
          (pss_one (ps_if (pt_cmpR op_eq (pe_op op_and (pe_op op_shr (pv 8) (pv 11)) pe_int) pe_int (nomark _))
            (pss_cons (ps_set (i := 9) scLaw.nd rfl (.inl rfl) (pe_call GW (hr.mono (by decide)) rfl mW kW bW .nil pass0 (pa_cons (pv 9) (pa_cons (pe_ix ix_list (pv 6) (pv 11) (fun _ _ => rfl)) pa_nil))))
            (pss_one (ps_set (i := 10) scLaw.nd rfl (.inl rfl) (pe_op op_sub pe_int (pv 10))))) pss_nil)))
        (pss_one (ps_expr (pe_call GD hr1 rfl mD kD bD .nil pass0 (pa_cons (pv 7) (pa_cons (pe_call GA hr rfl mA kA bA .nil pass0 (pa_cons (pv 1) (pa_cons pe_dnewK (pa_cons (pv 9) pa_nil)))) (pa_cons (pv 10) pa_nil))))))))))
      (pss_one (ps_if (pt_cmpR (op_neP hu) (pe_call GB (hr.mono (by decide)) rfl mB kB bB .nil pass0 (pa_cons (pv 7) pa_nil)) (pe_conT (pa_con pe_conS (pa_con (pe_conT pa_conN) pa_conN))) (nomark _))
        (pss_one (ps_ret pe_bl)) pss_nil)))))))))
    (pss_one (ps_ret pe_bl))), ?_⟩
  refine ⟨_, rfl, a, sc, 0, rfl, hSc, by decide, fun c0 => ?_⟩
  refine ⟨c0, rfl, fun r H1 qq s1 t1 hFin => ?_⟩
  obtain ⟨hq1, hq2, hq3, hq4, hq5, kq, hkq, hqS⟩ := fin_ans hFin
  refine ⟨3, rfl, by decide, by decide, ?_⟩
  refine for_range (fun i σ H2 => ∃ y2 y3 y4 y5 y6 y7 y8 y9 y10 y11, σ = [some (.ref a), some r, y2, y3, y4, y5, y6, y7, y8, y9, y10, y11] ∧ Same H1 H2)
    ⟨none, none, none, none, none, none, none, none, none, none, rfl, .refl H1⟩ (fun i σ H2 hi p => ?_) (fun σ H2 p => ?_)
  rotate_left
  · obtain ⟨_, _, _, _, _, _, _, _, _, _, rfl, _⟩ := p
    exact q H2
  obtain ⟨y2, y3, y4, y5, y6, y7, y8, y9, y10, y11, rfl, s2⟩ := p
  -- the seed
  refine ⟨_, rfl, _, rfl, _, _, rfl, rfl, a, sc, _, rfl, (s1.trans s2).seq hSc, by omega, fun c1 => ⟨_, rfl, _, _, rfl, rfl, _, rfl, fun sd H3 s3 hsd hS => ?_⟩⟩
  have sA := s2.trans s3
  have hsd1 : H1 sd = none := none_back s2 hsd
  -- the store
  refine ⟨_, rfl, sd, rfl, hS, fun d H4 S x4 hd sto4 sok => ?_⟩
  -- the names
  refine ⟨_, rfl, sd, rfl, x4.2, fun dn H5 ks x5 hdn hks hsub => ?_⟩
  have x5' := x4.trans x5
  have sto5 := sto4.sx x4.2 x5
  have hks5 : (ks.map (·.1)).length ≤ 5 := hsub.length_le
  refine ⟨dn, _, ks.map (·.1), rfl, .inl hks, by rw [List.map_map, List.map_map]; rfl, by omega, fun ys pn hperm _ hpn => ?_⟩
  have s6 := same_new hpn (.lst (ys.map V.str))
  have x6 := x5'.same s6
  have sto6 := sto5.same s6
  have hpns : pn ≠ sd := (x5'.2.ne hpn).symm
  have hpn6 : (upd H5 pn (.lst (ys.map V.str))) pn = some (.lst (ys.map V.str)) := upd_same
  generalize (upd H5 pn (.lst (ys.map V.str))) = H6 at s6 x6 sto6 hpn6 ⊢
  have hnd5 : T5.Nodup := by decide
  have hynd : ys.Nodup := hperm.nodup_iff.mpr (hnd5.sublist hsub)
  have hyT : ∀ t ∈ ys, t ∈ T5 := fun t ht => hsub.subset (hperm.mem_iff.mp ht)
  have hyl : ys.length ≤ 5 := by rw [hperm.length_eq]; exact hks5
  have s16 : Same H1 H6 := same_sx sA hsd1 x6
  -- the changes
  have hdeg4 : degQ ys qq + 1 ≤ 4 := by
    have h1 := deg_mono hyT qq
    have h2 := hFin.2.2
    omega
  refine ⟨_, rfl, _, rfl, r, pn, qq, ys, rfl, hq2, hq3, hq4, t1.mono s16.fs, hpn6, fun H7 s7 => ⟨_, _, rfl, rfl, ((degQ ys qq + 1 : Nat) : Int), rfl, by omega, by omega, fun D hD => ?_⟩⟩
  have x7 := x6.same s7
  have sto7 := sto6.same s7
  have hpn7 := s7 _ _ hpn6
  have hDs : D ≠ sd := (x7.2.ne hD).symm
  generalize en : degQ ys qq + 1 = n at hdeg4 ⊢
  have hd7 : ∃ kvs, H7 d = some (.dK kvs) := let ⟨kvs, e, _⟩ := sto7; ⟨kvs, e⟩
  refine lc_range (n := n) (lo := 0) (tt := tYes) (fun j H8 => SX sd H7 H8 ∧ ∃ (cs : List Addr) (Cs : Nat → Chg), H8 D = some (.lst (cs.map V.ref)) ∧ cs.length = j ∧ (∀ i ca, cs[i]? = some ca → ChG H8 ca ys (Cs i) ∧ ca ≠ d) ∧ ∀ i, i < j → COk ys (Cs i))
    ⟨.ofSame x7.2 (same_new hD _), [], fun _ _ => none, upd_same, rfl, (fun i ca e => by simp at e), fun i h => absurd h (Nat.not_lt_zero _)⟩ (fun j H8 hj p => ?_) (fun H8 p => ?_)
  · obtain ⟨x8, cs, Cs, hD8, hcl, hcs, hCs⟩ := p
    refine ⟨rfl, _, rfl, _, rfl, sd, pn, ys, rfl, x8.2, x8.1 _ _ hpns hpn7, hynd, fun t ht => kd_T5 (hyT t ht), hyl, hpns, fun dc H9 C x9 hdc chg cok => ?_⟩
    have hD9 := x9.1 _ _ hDs hD8
    have hdcd : dc ≠ d := by
      obtain ⟨kvs, e⟩ := hd7
      exact (ne_of_none (x8.1 _ _ (x7.2.ned e) e) hdc).symm
    have fD : FS H9 (upd H9 D (.lst (cs.map V.ref ++ [.ref dc]))) := fs_lst hD9
    have kD : ∀ ca kvs, H9 ca = some (.dK kvs) → (upd H9 D (.lst (cs.map V.ref ++ [.ref dc]))) ca = some (.dK kvs) := fun ca kvs e => by rw [upd_ne (ne_of e hD9 (by intro z; cases z))]; exact e
    refine ⟨_, hD9, ?_, (x8.trans x9).same2 hD hDs, cs ++ [dc], (fun i => if i = j then C else Cs i), by rw [upd_same, List.map_append]; rfl, by rw [List.length_append, hcl]; rfl, fun i ca e => ?_, fun i hi => ?_⟩
    · rw [List.length_map, hcl, sizeLine_eq]
      omega
    · by_cases hi : i < cs.length
      · rw [List.getElem?_append_left hi] at e
        obtain ⟨h1, h2⟩ := hcs i ca e
        refine ⟨?_, h2⟩
        show ChG _ ca ys (if i = j then C else Cs i)
        rw [if_neg (by omega)]
        exact (h1.sx x8.2 x9).mono fD (kD ca)
      · rw [List.getElem?_append_right (by omega)] at e
        have h0 : i - cs.length = 0 := by
          have := (List.getElem?_eq_some_iff.mp e).1
          simp at this
          omega
        rw [h0] at e
        have e' : dc = ca := by simpa using e
        subst e'
        refine ⟨?_, hdcd⟩
        show ChG _ dc ys (if i = j then C else Cs i)
        rw [if_pos (by omega)]
        exact chg.mono fD (kD dc)
    · show COk ys (if i = j then C else Cs i)
      by_cases h : i = j
      · rw [if_pos h]; exact cok
      · rw [if_neg h]; exact hCs i (by omega)
  obtain ⟨x8, cs, Cs, hD8, hcl, hcs, hCs⟩ := p
  have sto8 := sto7.sx x7.2 x8
  have s18 : Same H1 H8 := same_sx sA hsd1 (x7.trans x8)
  obtain ⟨kf, hkf, hall⟩ := allc_facts hFin sok hdeg4 hCs
  obtain ⟨N, hN⟩ : ∃ N : Nat, N = 2 ^ n := ⟨_, rfl⟩
  have h16 : N ≤ 16 := by rw [hN]; exact pow_le16 hdeg4
  -- counts
  refine ⟨Nat.zero_le _, fun co hco => ?_⟩
  have s9 := same_new hco (.lst [])
  have hco1 : H1 co = none := none_back s18 hco
  have hc9 : (upd H8 co (.lst [])) co = some (.lst []) := upd_same
  have s19 := s18.trans s9
  have sto9 := sto8.same s9
  have hD9 := s9 _ _ hD8
  have hcs9 : ∀ i ca, cs[i]? = some ca → ChG (upd H8 co (.lst [])) ca ys (Cs i) ∧ ca ≠ d := fun i ca e => ⟨(hcs i ca e).1.same s9, (hcs i ca e).2⟩
  generalize (upd H8 co (.lst [])) = H9 at s9 hc9 s19 sto9 hD9 hcs9 ⊢
  have hlm : (cs.map V.ref).length = n := by rw [List.length_map, hcl]
  have hDco : D ≠ co := ne_of_none hD8 hco
  refine ⟨_, rfl, D, _, rfl, .inl (SqL.of hD9), _, _, rfl, rfl, ⟨by omega, by rw [hlm]; omega, by decide⟩, ((N : Nat) : Int), ?_, by omega, by omega, ?_⟩
  · show [V.int (1 * 2 ^ (((cs.map V.ref).length : Nat) : Int).toNat)] = [V.int (N : Int)]
    rw [hN, hlm, Int.one_mul, Int.toNat_natCast, Int.natCast_pow]
    rfl
  refine for_range (n := N) (fun m σ Ha => ∃ y8 y9 y10 y11, σ = [some (.ref a), some r, some (.int (0 + (i : Int))), some (.ref sd), some (.ref d), some (.ref pn), some (.ref D), some (.ref co), y8, y9, y10, y11] ∧ But co H9 Ha ∧ LT Ha co ((allc qq S Cs n m).map pdat))
    ⟨y8, y9, y10, y11, rfl, .refl _ _, [], hc9, .nil⟩ (fun m σ Ha hm p => ?_) (fun σ Ha p => ?_)
  · obtain ⟨z8, z9, z10, z11, rfl, ba, hLa⟩ := p
    have fa : FS H9 Ha := ba.fs hc9
    have stoa : StoG Ha d S := sto9.mono fa fun kvs e => ba _ _ (ne_of e hc9 (by intro z; cases z)) e
    have hDa := ba _ _ hDco hD9
    have hcsa : ∀ i ca, cs[i]? = some ca → ChG Ha ca ys (Cs i) ∧ ca ≠ d := fun i ca e => ⟨(hcs9 i ca e).1.mono fa fun kvs e => ba _ _ (ne_of e hc9 (by intro z; cases z)) e, (hcs9 i ca e).2⟩
    refine ⟨_, rfl, ?_⟩
    refine ⟨_, rfl, D, _, rfl, .inl (SqL.of hDa), ((n : Nat) : Int), by rw [hlm], by omega, by omega, ?_⟩
    refine for_range (n := n) (fun j σ Hb => ∃ w11 dl, σ = [some (.ref a), some r, some (.int (0 + (i : Int))), some (.ref sd), some (.ref d), some (.ref pn), some (.ref D), some (.ref co), some (.int (0 + (m : Int))), some (.ref dl), some (.int (sgn m j)), w11] ∧ Same Ha Hb ∧ StoG Hb dl (later S Cs m j) ∧ ∀ ca ∈ cs, ca ≠ dl)
      ⟨z11, d, rfl, .refl _, stoa, fun ca hca => by
        obtain ⟨i, hi, e⟩ := List.getElem_of_mem hca
        exact (hcsa i ca (by rw [List.getElem?_eq_getElem hi, e])).2⟩ (fun j σ Hb hj p => ?_) (fun σ Hb p => ?_)
    · obtain ⟨w11, dl, rfl, sb, stob, hne⟩ := p
      have hDb := sb _ _ hDa
      refine ⟨_, rfl, _, rfl, _, _, rfl, rfl, (show (0 : Int) ≤ 0 + (j : Int) by omega), _, _, rfl, rfl, rfl, _, rfl, ?_⟩
      have hjc : j < cs.length := by omega
      have hca : cs[j]? = some cs[j] := List.getElem?_eq_getElem hjc
      obtain ⟨chj, _⟩ := hcsa j _ hca
      cases hb : bit m j with
      | true =>
        refine iteTe ((bit_test m j).trans hb) ?_
        have hat : atI (cs.map V.ref) (0 + (j : Int)) = some (.ref cs[j]) := by
          rw [Int.zero_add]
          exact atI_nat (by rw [List.getElem?_map, hca]; rfl)
        refine ⟨_, rfl, _, rfl, _, rfl, D, _, _, _, rfl, rfl, SqL.of hDb, hat, ?_⟩
        refine ⟨dl, cs[j], later S Cs m j, Cs j, ys, 3 + 3 * j, 100 + 4 * j, rfl, (hne _ (List.getElem_mem hjc)).symm, stob, chj.same sb, later_ok sok (by omega) (fun i hi => hCs i (by omega)) m, hCs j hj, hynd, hyl, by omega, by omega, by omega, fun dw Hc sc' hdw stow => ?_⟩
        refine ⟨_, rfl, _, _, rfl, rfl, some (.int (0 + (j : Int))), dw, ?_, sb.trans sc', ?_, fun ca hca2 => ?_⟩
        · rw [show sgn m (j + 1) = 0 - sgn m j from by show (if bit m j = true then _ else _) = _; rw [if_pos hb]]
          rfl
        · rw [show later S Cs m (j + 1) = withS (later S Cs m j) (Cs j) from by show (if bit m j = true then _ else _) = _; rw [if_pos hb]; rfl]
          exact stow
        · obtain ⟨i2, hi2, e2⟩ := List.getElem_of_mem hca2
          obtain ⟨⟨kk, h1, _⟩, _⟩ := hcsa i2 ca (by rw [List.getElem?_eq_getElem hi2, e2])
          exact ne_of_none (sb _ _ h1) hdw
      | false =>
        refine iteFe ((bit_test m j).trans hb) ?_
        refine ⟨some (.int (0 + (j : Int))), dl, ?_, sb, ?_, hne⟩
        · rw [show sgn m (j + 1) = sgn m j from by show (if bit m j = true then _ else _) = _; rw [if_neg (by rw [hb]; decide)]]
          rfl
        · rw [show later S Cs m (j + 1) = later S Cs m j from by show (if bit m j = true then _ else _) = _; rw [if_neg (by rw [hb]; decide)]]
          exact stob
    · obtain ⟨w11, dl, rfl, sb, stob, hne⟩ := p
      refine ⟨_, rfl, _, rfl, fun dv hdv => ⟨_, rfl, ?_⟩⟩
      have sd' := same_new hdv (.dK [])
      have sab := sb.trans sd'
      obtain ⟨hsafe, hbok⟩ := hqS _ (later_sto sok hdeg4 hCs m)
      have stod := stob.same sd'
      refine ⟨r, dv, dl, qq, E0v, later S Cs m n, rfl, hq4, hq1, hsafe, (t1.mono s19.fs).mono (fa.trans sab.fs), ⟨[], upd_same, by show 0 + 80 ≤ 1000; decide, fun x v h => nomatch h⟩, ?_, fun rr Hr sr tr => ?_⟩
      · obtain ⟨kvs, h1, _, h2⟩ := stod
        exact ⟨kvs, h1, fun t ht => by
          obtain ⟨k, hk⟩ := kd_T5 ht
          exact h2 t k hk⟩
      obtain ⟨lr, er, rr2, llr, hlr⟩ := hbok.rows
      have sall := sab.trans sr
      have hLr := hLa.mono sall
      have hlen := (hall m).1
      refine ⟨_, rfl, co, rr, sgn m n, allc qq S Cs n m, lr, rfl, hLr, by rw [← er]; exact tr, ?_, fun p hp => ?_, fun Hz bz lz => ?_⟩
      · have : m * 759375 + 759375 ≤ 16 * 759375 := by
          have h1 : m + 1 ≤ 16 := by omega
          have := Nat.mul_le_mul_right 759375 h1
          omega
        omega
      · exact wide_mul (a := 1) (b := 6270) (by rw [sgn_abs]; decide) (hlr p hp).2 (by decide) (by decide) (by decide)
      · refine ⟨_, _, _, _, rfl, (ba.trans sall.but).trans bz, ?_⟩
        rw [allc_succ, rr2]
        exact lz
  · obtain ⟨z8, z9, z10, z11, rfl, ba, hLa⟩ := p
    obtain ⟨hlen, hkind⟩ := hall N
    refine ⟨_, rfl, co, kf, _, rfl, hLa, by omega, hkind, ?_, fun rb Hb sb tb => ?_⟩
    · have := Nat.mul_le_mul_right 759375 h16
      omega
    have ez : bagL (allc qq S Cs n N) = [] := by rw [hN]; exact allc_zero hFin sok hyT en.symm hCs
    intro vc Hc sc' tc
    have e1 : (mkBag (allc qq S Cs n N)).enc = .tuple [.str "bag", .tuple []] := by
      unfold mkBag
      rw [ez]
      rfl
    rw [e1] at tb
    refine ⟨_, _, tb.mono sc'.fs, tc, by simp [PyData.depth, PyData.depthAll], fun b hb => ⟨_, rfl, ?_⟩⟩
    cases b with
    | true => exact absurd rfl (hb.mp rfl)
    | false =>
      refine iteF ⟨_, _, _, _, _, _, _, _, _, _, rfl, fun b o e => ?_⟩
      exact sc' _ _ (sb _ _ (ba b o (ne_of_none e hco1) (s19 _ _ e)))
end
end N97

/-! KaWl -/
set_option maxRecDepth 100000
set_option maxHeartbeats 8000000
namespace N97
open PySem PySem.Spec PyProof.Rows L2
theorem forms_mk {K : PySem.W.Frag} {w : World} {dF : Addr} {es : Array DictEntry} {n : Nat} (lF : K.lookup dF = some ⟨.type "dict", none, .dict es n, #[]⟩) (kF : PySem.W.KeysLit w.params es.toList)
    {t0 : Tok} (e0 : PySem.W.nsIn K dF "num" = some (some (.str "n" t0)))
    {t1 : Tok} (e1 : PySem.W.nsIn K dF "word" = some (some (.str "w" t1)))
    {t2 : Tok} (e2 : PySem.W.nsIn K dF "var" = some (some (.str "w" t2)))
    {t3 : Tok} (e3 : PySem.W.nsIn K dF "table" = some (some (.str "w" t3)))
    {t4 : Tok} (e4 : PySem.W.nsIn K dF "at" = some (some (.str "wq" t4)))
    {t5 : Tok} (e5 : PySem.W.nsIn K dF "add" = some (some (.str "qq" t5)))
    {t6 : Tok} (e6 : PySem.W.nsIn K dF "mul" = some (some (.str "qq" t6)))
    {t7 : Tok} (e7 : PySem.W.nsIn K dF "none" = some (some (.str "k" t7)))
    {t8 : Tok} (e8 : PySem.W.nsIn K dF "one" = some (some (.str "q" t8)))
    {t9 : Tok} (e9 : PySem.W.nsIn K dF "both" = some (some (.str "qq" t9)))
    {t10 : Tok} (e10 : PySem.W.nsIn K dF "times" = some (some (.str "nq" t10)))
    {t11 : Tok} (e11 : PySem.W.nsIn K dF "for" = some (some (.str "wqq" t11)))
    {t12 : Tok} (e12 : PySem.W.nsIn K dF "when" = some (some (.str "tq" t12)))
    {t13 : Tok} (e13 : PySem.W.nsIn K dF "let" = some (some (.str "wqq" t13)))
    {t14 : Tok} (e14 : PySem.W.nsIn K dF "same" = some (some (.str "qq" t14)))
    {t15 : Tok} (e15 : PySem.W.nsIn K dF "under" = some (some (.str "qq" t15)))
    {t16 : Tok} (e16 : PySem.W.nsIn K dF "and" = some (some (.str "tt" t16)))
    {t17 : Tok} (e17 : PySem.W.nsIn K dF "or" = some (some (.str "tt" t17)))
    {t18 : Tok} (e18 : PySem.W.nsIn K dF "not" = some (some (.str "t" t18)))
    : ∀ p ∈ forms, KDct K w dF p.1 (.str p.2) := by
  intro p hp
  simp only [forms, List.mem_cons, List.not_mem_nil, or_false] at hp
  rcases hp with rfl | rfl | rfl | rfl | rfl | rfl | rfl | rfl | rfl | rfl | rfl | rfl | rfl | rfl | rfl | rfl | rfl | rfl | rfl
  · exact ⟨es, n, _, lF, kF, e0, ⟨t0, rfl⟩⟩
  · exact ⟨es, n, _, lF, kF, e1, ⟨t1, rfl⟩⟩
  · exact ⟨es, n, _, lF, kF, e2, ⟨t2, rfl⟩⟩
  · exact ⟨es, n, _, lF, kF, e3, ⟨t3, rfl⟩⟩
  · exact ⟨es, n, _, lF, kF, e4, ⟨t4, rfl⟩⟩
  · exact ⟨es, n, _, lF, kF, e5, ⟨t5, rfl⟩⟩
  · exact ⟨es, n, _, lF, kF, e6, ⟨t6, rfl⟩⟩
  · exact ⟨es, n, _, lF, kF, e7, ⟨t7, rfl⟩⟩
  · exact ⟨es, n, _, lF, kF, e8, ⟨t8, rfl⟩⟩
  · exact ⟨es, n, _, lF, kF, e9, ⟨t9, rfl⟩⟩
  · exact ⟨es, n, _, lF, kF, e10, ⟨t10, rfl⟩⟩
  · exact ⟨es, n, _, lF, kF, e11, ⟨t11, rfl⟩⟩
  · exact ⟨es, n, _, lF, kF, e12, ⟨t12, rfl⟩⟩
  · exact ⟨es, n, _, lF, kF, e13, ⟨t13, rfl⟩⟩
  · exact ⟨es, n, _, lF, kF, e14, ⟨t14, rfl⟩⟩
  · exact ⟨es, n, _, lF, kF, e15, ⟨t15, rfl⟩⟩
  · exact ⟨es, n, _, lF, kF, e16, ⟨t16, rfl⟩⟩
  · exact ⟨es, n, _, lF, kF, e17, ⟨t17, rfl⟩⟩
  · exact ⟨es, n, _, lF, kF, e18, ⟨t18, rfl⟩⟩
theorem forms_cps {Pr : Prop} {w : World} {K : PySem.W.Frag} {h : Heap} {mg : Str → Option Value} (X : K.In h) (G : h.Ns mainGlobals mg) {dF : Addr} {es : Array DictEntry} {n : Nat}
    {t0 : Tok}
    {t1 : Tok}
    {t2 : Tok}
    {t3 : Tok}
    {t4 : Tok}
    {t5 : Tok}
    {t6 : Tok}
    {t7 : Tok}
    {t8 : Tok}
    {t9 : Tok}
    {t10 : Tok}
    {t11 : Tok}
    {t12 : Tok}
    {t13 : Tok}
    {t14 : Tok}
    {t15 : Tok}
    {t16 : Tok}
    {t17 : Tok}
    {t18 : Tok}
    (aF : PySem.W.nsIn K mainGlobals "FORMS" = some (some (.ref dF))) (lF : K.lookup dF = some ⟨.type "dict", none, .dict es n, #[]⟩) (kF : PySem.W.KeysLit w.params es.toList)
    (e0 : PySem.W.nsIn K dF "num" = some (some (.str "n" t0)))
    (e1 : PySem.W.nsIn K dF "word" = some (some (.str "w" t1)))
    (e2 : PySem.W.nsIn K dF "var" = some (some (.str "w" t2)))
    (e3 : PySem.W.nsIn K dF "table" = some (some (.str "w" t3)))
    (e4 : PySem.W.nsIn K dF "at" = some (some (.str "wq" t4)))
    (e5 : PySem.W.nsIn K dF "add" = some (some (.str "qq" t5)))
    (e6 : PySem.W.nsIn K dF "mul" = some (some (.str "qq" t6)))
    (e7 : PySem.W.nsIn K dF "none" = some (some (.str "k" t7)))
    (e8 : PySem.W.nsIn K dF "one" = some (some (.str "q" t8)))
    (e9 : PySem.W.nsIn K dF "both" = some (some (.str "qq" t9)))
    (e10 : PySem.W.nsIn K dF "times" = some (some (.str "nq" t10)))
    (e11 : PySem.W.nsIn K dF "for" = some (some (.str "wqq" t11)))
    (e12 : PySem.W.nsIn K dF "when" = some (some (.str "tq" t12)))
    (e13 : PySem.W.nsIn K dF "let" = some (some (.str "wqq" t13)))
    (e14 : PySem.W.nsIn K dF "same" = some (some (.str "qq" t14)))
    (e15 : PySem.W.nsIn K dF "under" = some (some (.str "qq" t15)))
    (e16 : PySem.W.nsIn K dF "and" = some (some (.str "tt" t16)))
    (e17 : PySem.W.nsIn K dF "or" = some (some (.str "tt" t17)))
    (e18 : PySem.W.nsIn K dF "not" = some (some (.str "t" t18)))
    (k : mg "FORMS" = some (.ref dF) → (∀ p ∈ forms, KDct K w dF p.1 (.str p.2)) → Pr) : Pr := k (PySem.W.mg_of X G aF) (forms_mk (w := w) lF kF e0 e1 e2 e3 e4 e5 e6 e7 e8 e9 e10 e11 e12 e13 e14 e15 e16 e17 e18)
theorem all_mk {l : PySem.W.OpenLaw} {w : World} {K : PySem.W.Frag} {h : Heap} {mg : Str → Option Value} {fa f2 f3 f5 f6 f8 f9 f10 f11 f12 f13 f14 f15 f16 f17 f18 f19 f20 f21 f22 f23 f24 f25 f26 f27 f28 f31 f33 f34 dF : Addr} (X : K.In h) (G : h.Ns mainGlobals mg) (hfa : mg "law" = some (.ref fa))
    {od2 an2 od3 an3 od5 an5 od6 an6 od8 an8 od9 an9 od10 an10 od11 an11 od12 an12 od13 an13 od14 an14 od15 an15 od16 an16 od17 an17 od18 an18 od19 an19 od20 an20 od21 an21 od22 an22 od23 an23 od24 an24 od25 an25 od26 an26 od27 an27 od28 an28 od31 an31 od33 an33 od34 an34 : Option Addr} {sl2 sl3 sl5 sl6 sl8 sl9 sl10 sl11 sl12 sl13 sl14 sl15 sl16 sl17 sl18 sl19 sl20 sl21 sl22 sl23 sl24 sl25 sl26 sl27 sl28 sl31 sl33 sl34 : Array (Option Value)} {oc2 kV2 dc2 pm2 cd2 ct2 oc3 kV3 dc3 pm3 cd3 ct3 oc5 kV5 dc5 pm5 cd5 ct5 oc6 kV6 dc6 pm6 cd6 ct6 oc8 kV8 dc8 pm8 cd8 ct8 oc9 kV9 dc9 pm9 cd9 ct9 oc10 kV10 dc10 pm10 cd10 ct10 oc11 kV11 dc11 pm11 cd11 ct11 oc12 kV12 dc12 pm12 cd12 ct12 oc13 kV13 dc13 pm13 cd13 ct13 oc14 kV14 dc14 pm14 cd14 ct14 oc15 kV15 dc15 pm15 cd15 ct15 oc16 kV16 dc16 pm16 cd16 ct16 oc17 kV17 dc17 pm17 cd17 ct17 oc18 kV18 dc18 pm18 cd18 ct18 oc19 kV19 dc19 pm19 cd19 ct19 oc20 kV20 dc20 pm20 cd20 ct20 oc21 kV21 dc21 pm21 cd21 ct21 oc22 kV22 dc22 pm22 cd22 ct22 oc23 kV23 dc23 pm23 cd23 ct23 oc24 kV24 dc24 pm24 cd24 ct24 oc25 kV25 dc25 pm25 cd25 ct25 oc26 kV26 dc26 pm26 cd26 ct26 oc27 kV27 dc27 pm27 cd27 ct27 oc28 kV28 dc28 pm28 cd28 ct28 oc31 kV31 dc31 pm31 cd31 ct31 oc33 kV33 dc33 pm33 cd33 ct33 oc34 kV34 dc34 pm34 cd34 ct34 : Value}
    (a2 : PySem.W.nsIn K mainGlobals "under" = some (some (.ref f2))) (l2 : K.lookup f2 = some ⟨oc2, od2, .func (PySem.W.fnOf "under" "under" (defArgs sUnd) (defBody sUnd) (defScope sUnd) .none kV2 dc2 pm2 an2 cd2 ct2), sl2⟩) (c2 : PySem.W.codeIn K cd2 "under" = true) (k2 : PySem.W.keepIn K (.ref f2) = true)
    (a3 : PySem.W.nsIn K mainGlobals "tables" = some (some (.ref f3))) (l3 : K.lookup f3 = some ⟨oc3, od3, .func (PySem.W.fnOf "tables" "tables" (defArgs sTab) (defBody sTab) (defScope sTab) .none kV3 dc3 pm3 an3 cd3 ct3), sl3⟩) (c3 : PySem.W.codeIn K cd3 "tables" = true) (k3 : PySem.W.keepIn K (.ref f3) = true)
    (a5 : PySem.W.nsIn K mainGlobals "is_even" = some (some (.ref f5))) (l5 : K.lookup f5 = some ⟨oc5, od5, .func (PySem.W.fnOf "is_even" "is_even" (defArgs sEvn) (defBody sEvn) (defScope sEvn) .none kV5 dc5 pm5 an5 cd5 ct5), sl5⟩) (c5 : PySem.W.codeIn K cd5 "is_even" = true) (k5 : PySem.W.keepIn K (.ref f5) = true)
    (a6 : PySem.W.nsIn K mainGlobals "degree" = some (some (.ref f6))) (l6 : K.lookup f6 = some ⟨oc6, od6, .func (PySem.W.fnOf "degree" "degree" (defArgs sDeg) (defBody sDeg) (defScope sDeg) .none kV6 dc6 pm6 an6 cd6 ct6), sl6⟩) (c6 : PySem.W.codeIn K cd6 "degree" = true) (k6 : PySem.W.keepIn K (.ref f6) = true)
    (a8 : PySem.W.nsIn K mainGlobals "_law_cell_at" = some (some (.ref f8))) (l8 : K.lookup f8 = some ⟨oc8, od8, .func (PySem.W.fnOf "_law_cell_at" "_law_cell_at" (defArgs sCell) (defBody sCell) (defScope sCell) .none kV8 dc8 pm8 an8 cd8 ct8), sl8⟩) (c8 : PySem.W.codeIn K cd8 "_law_cell_at" = true) (k8 : PySem.W.keepIn K (.ref f8) = true)
    (a9 : PySem.W.nsIn K mainGlobals "_law_seed" = some (some (.ref f9))) (l9 : K.lookup f9 = some ⟨oc9, od9, .func (PySem.W.fnOf "_law_seed" "_law_seed" (defArgs sSeed) (defBody sSeed) (defScope sSeed) .none kV9 dc9 pm9 an9 cd9 ct9), sl9⟩) (c9 : PySem.W.codeIn K cd9 "_law_seed" = true) (k9 : PySem.W.keepIn K (.ref f9) = true)
    (a10 : PySem.W.nsIn K mainGlobals "_law_draw" = some (some (.ref f10))) (l10 : K.lookup f10 = some ⟨oc10, od10, .func (PySem.W.fnOf "_law_draw" "_law_draw" (defArgs sDraw) (defBody sDraw) (defScope sDraw) .none kV10 dc10 pm10 an10 cd10 ct10), sl10⟩) (c10 : PySem.W.codeIn K cd10 "_law_draw" = true) (k10 : PySem.W.keepIn K (.ref f10) = true)
    (a11 : PySem.W.nsIn K mainGlobals "_law_key" = some (some (.ref f11))) (l11 : K.lookup f11 = some ⟨oc11, od11, .func (PySem.W.fnOf "_law_key" "_law_key" (defArgs sKey) (defBody sKey) (defScope sKey) .none kV11 dc11 pm11 an11 cd11 ct11), sl11⟩) (c11 : PySem.W.codeIn K cd11 "_law_key" = true) (k11 : PySem.W.keepIn K (.ref f11) = true)
    (a12 : PySem.W.nsIn K mainGlobals "_law_bag" = some (some (.ref f12))) (l12 : K.lookup f12 = some ⟨oc12, od12, .func (PySem.W.fnOf "_law_bag" "_law_bag" (defArgs sBag) (defBody sBag) (defScope sBag) .none kV12 dc12 pm12 an12 cd12 ct12), sl12⟩) (c12 : PySem.W.codeIn K cd12 "_law_bag" = true) (k12 : PySem.W.keepIn K (.ref f12) = true)
    (a13 : PySem.W.nsIn K mainGlobals "_law_add" = some (some (.ref f13))) (l13 : K.lookup f13 = some ⟨oc13, od13, .func (PySem.W.fnOf "_law_add" "_law_add" (defArgs sAdd) (defBody sAdd) (defScope sAdd) .none kV13 dc13 pm13 an13 cd13 ct13), sl13⟩) (c13 : PySem.W.codeIn K cd13 "_law_add" = true) (k13 : PySem.W.keepIn K (.ref f13) = true)
    (a14 : PySem.W.nsIn K mainGlobals "_law_truth" = some (some (.ref f14))) (l14 : K.lookup f14 = some ⟨oc14, od14, .func (PySem.W.fnOf "_law_truth" "_law_truth" (defArgs sTru) (defBody sTru) (defScope sTru) .none kV14 dc14 pm14 an14 cd14 ct14), sl14⟩) (c14 : PySem.W.codeIn K cd14 "_law_truth" = true) (k14 : PySem.W.keepIn K (.ref f14) = true)
    (a15 : PySem.W.nsIn K mainGlobals "_law_bound" = some (some (.ref f15))) (l15 : K.lookup f15 = some ⟨oc15, od15, .func (PySem.W.fnOf "_law_bound" "_law_bound" (defArgs sBnd) (defBody sBnd) (defScope sBnd) .none kV15 dc15 pm15 an15 cd15 ct15), sl15⟩) (c15 : PySem.W.codeIn K cd15 "_law_bound" = true) (k15 : PySem.W.keepIn K (.ref f15) = true)
    (a16 : PySem.W.nsIn K mainGlobals "_law_answer" = some (some (.ref f16))) (l16 : K.lookup f16 = some ⟨oc16, od16, .func (PySem.W.fnOf "_law_answer" "_law_answer" (defArgs sAns) (defBody sAns) (defScope sAns) .none kV16 dc16 pm16 an16 cd16 ct16), sl16⟩) (c16 : PySem.W.codeIn K cd16 "_law_answer" = true) (k16 : PySem.W.keepIn K (.ref f16) = true)
    (a17 : PySem.W.nsIn K mainGlobals "_law_value" = some (some (.ref f17))) (l17 : K.lookup f17 = some ⟨oc17, od17, .func (PySem.W.fnOf "_law_value" "_law_value" (defArgs sVal) (defBody sVal) (defScope sVal) .none kV17 dc17 pm17 an17 cd17 ct17), sl17⟩) (c17 : PySem.W.codeIn K cd17 "_law_value" = true) (k17 : PySem.W.keepIn K (.ref f17) = true)
    (a18 : PySem.W.nsIn K mainGlobals "_law_kinds" = some (some (.ref f18))) (l18 : K.lookup f18 = some ⟨oc18, od18, .func (PySem.W.fnOf "_law_kinds" "_law_kinds" (defArgs sKds) (defBody sKds) (defScope sKds) .none kV18 dc18 pm18 an18 cd18 ct18), sl18⟩) (c18 : PySem.W.codeIn K cd18 "_law_kinds" = true) (k18 : PySem.W.keepIn K (.ref f18) = true)
    (a19 : PySem.W.nsIn K mainGlobals "_law_store" = some (some (.ref f19))) (l19 : K.lookup f19 = some ⟨oc19, od19, .func (PySem.W.fnOf "_law_store" "_law_store" (defArgs sSto) (defBody sSto) (defScope sSto) .none kV19 dc19 pm19 an19 cd19 ct19), sl19⟩) (c19 : PySem.W.codeIn K cd19 "_law_store" = true) (k19 : PySem.W.keepIn K (.ref f19) = true)
    (a20 : PySem.W.nsIn K mainGlobals "_law_seen" = some (some (.ref f20))) (l20 : K.lookup f20 = some ⟨oc20, od20, .func (PySem.W.fnOf "_law_seen" "_law_seen" (defArgs sSeen) (defBody sSeen) (defScope sSeen) .none kV20 dc20 pm20 an20 cd20 ct20), sl20⟩) (c20 : PySem.W.codeIn K cd20 "_law_seen" = true) (k20 : PySem.W.keepIn K (.ref f20) = true)
    (a21 : PySem.W.nsIn K mainGlobals "_law_held" = some (some (.ref f21))) (l21 : K.lookup f21 = some ⟨oc21, od21, .func (PySem.W.fnOf "_law_held" "_law_held" (defArgs sHeld) (defBody sHeld) (defScope sHeld) .none kV21 dc21 pm21 an21 cd21 ct21), sl21⟩) (c21 : PySem.W.codeIn K cd21 "_law_held" = true) (k21 : PySem.W.keepIn K (.ref f21) = true)
    (a22 : PySem.W.nsIn K mainGlobals "_law_small" = some (some (.ref f22))) (l22 : K.lookup f22 = some ⟨oc22, od22, .func (PySem.W.fnOf "_law_small" "_law_small" (defArgs sSml) (defBody sSml) (defScope sSml) .none kV22 dc22 pm22 an22 cd22 ct22), sl22⟩) (c22 : PySem.W.codeIn K cd22 "_law_small" = true) (k22 : PySem.W.keepIn K (.ref f22) = true)
    (a23 : PySem.W.nsIn K mainGlobals "_law_claim" = some (some (.ref f23))) (l23 : K.lookup f23 = some ⟨oc23, od23, .func (PySem.W.fnOf "_law_claim" "_law_claim" (defArgs sClm) (defBody sClm) (defScope sClm) .none kV23 dc23 pm23 an23 cd23 ct23), sl23⟩) (c23 : PySem.W.codeIn K cd23 "_law_claim" = true) (k23 : PySem.W.keepIn K (.ref f23) = true)
    (a24 : PySem.W.nsIn K mainGlobals "_law_over" = some (some (.ref f24))) (l24 : K.lookup f24 = some ⟨oc24, od24, .func (PySem.W.fnOf "_law_over" "_law_over" (defArgs sOvr) (defBody sOvr) (defScope sOvr) .none kV24 dc24 pm24 an24 cd24 ct24), sl24⟩) (c24 : PySem.W.codeIn K cd24 "_law_over" = true) (k24 : PySem.W.keepIn K (.ref f24) = true)
    (a25 : PySem.W.nsIn K mainGlobals "_law_taken" = some (some (.ref f25))) (l25 : K.lookup f25 = some ⟨oc25, od25, .func (PySem.W.fnOf "_law_taken" "_law_taken" (defArgs sTak) (defBody sTak) (defScope sTak) .none kV25 dc25 pm25 an25 cd25 ct25), sl25⟩) (c25 : PySem.W.codeIn K cd25 "_law_taken" = true) (k25 : PySem.W.keepIn K (.ref f25) = true)
    (a26 : PySem.W.nsIn K mainGlobals "_law_asked" = some (some (.ref f26))) (l26 : K.lookup f26 = some ⟨oc26, od26, .func (PySem.W.fnOf "_law_asked" "_law_asked" (defArgs sAsk) (defBody sAsk) (defScope sAsk) .none kV26 dc26 pm26 an26 cd26 ct26), sl26⟩) (c26 : PySem.W.codeIn K cd26 "_law_asked" = true) (k26 : PySem.W.keepIn K (.ref f26) = true)
    (a27 : PySem.W.nsIn K mainGlobals "_law_change" = some (some (.ref f27))) (l27 : K.lookup f27 = some ⟨oc27, od27, .func (PySem.W.fnOf "_law_change" "_law_change" (defArgs sChg) (defBody sChg) (defScope sChg) .none kV27 dc27 pm27 an27 cd27 ct27), sl27⟩) (c27 : PySem.W.codeIn K cd27 "_law_change" = true) (k27 : PySem.W.keepIn K (.ref f27) = true)
    (a28 : PySem.W.nsIn K mainGlobals "_law_with" = some (some (.ref f28))) (l28 : K.lookup f28 = some ⟨oc28, od28, .func (PySem.W.fnOf "_law_with" "_law_with" (defArgs sWth) (defBody sWth) (defScope sWth) .none kV28 dc28 pm28 an28 cd28 ct28), sl28⟩) (c28 : PySem.W.codeIn K cd28 "_law_with" = true) (k28 : PySem.W.keepIn K (.ref f28) = true)
    (a31 : PySem.W.nsIn K mainGlobals "_law_names" = some (some (.ref f31))) (l31 : K.lookup f31 = some ⟨oc31, od31, .func (PySem.W.fnOf "_law_names" "_law_names" (defArgs sNms) (defBody sNms) (defScope sNms) .none kV31 dc31 pm31 an31 cd31 ct31), sl31⟩) (c31 : PySem.W.codeIn K cd31 "_law_names" = true) (k31 : PySem.W.keepIn K (.ref f31) = true)
    (a33 : PySem.W.nsIn K mainGlobals "_law_first_even" = some (some (.ref f33))) (l33 : K.lookup f33 = some ⟨oc33, od33, .func (PySem.W.fnOf "_law_first_even" "_law_first_even" (defArgs sFst) (defBody sFst) (defScope sFst) .none kV33 dc33 pm33 an33 cd33 ct33), sl33⟩) (c33 : PySem.W.codeIn K cd33 "_law_first_even" = true) (k33 : PySem.W.keepIn K (.ref f33) = true)
    (a34 : PySem.W.nsIn K mainGlobals "law" = some (some (.ref f34))) (l34 : K.lookup f34 = some ⟨oc34, od34, .func (PySem.W.fnOf "law" "law" (defArgs sLaw) (defBody sLaw) (defScope sLaw) .none kV34 dc34 pm34 an34 cd34 ct34), sl34⟩) (c34 : PySem.W.codeIn K cd34 "law" = true) (k34 : PySem.W.keepIn K (.ref f34) = true)
    (z_tuple : PySem.W.nsIn K mainGlobals "tuple" = some none)
    (z_int : PySem.W.nsIn K mainGlobals "int" = some none)
    (z_dict : PySem.W.nsIn K mainGlobals "dict" = some none)
    (z_range : PySem.W.nsIn K mainGlobals "range" = some none)
    (z_len : PySem.W.nsIn K mainGlobals "len" = some none)
    (z_sorted : PySem.W.nsIn K mainGlobals "sorted" = some none)
    (z_max : PySem.W.nsIn K mainGlobals "max" = some none)
    (z_all : PySem.W.nsIn K mainGlobals "all" = some none)
    (z_list : PySem.W.nsIn K mainGlobals "list" = some none)
    (z_zip : PySem.W.nsIn K mainGlobals "zip" = some none)
    (mF : mg "FORMS" = some (.ref dF)) (hF : ∀ p ∈ forms, KDct K w dF p.1 (.str p.2))
    : ∃ fd : FuncData, (∀ (s : Shared) (v : Value), BindsTo s fd ⟨[v], []⟩ [("script", v)]) ∧ ∀ base : Heap, K.In base → base.Ns mainGlobals mg → FnOk l.prog w K mg base CX0 171 fa fd ["script"] (spLaw K) := by
  have e := hfa.symm.trans (PySem.W.mg_of X G a34)
  cases e
  have F2 := fun_mk (st := sUnd) l2 c2 k2
  have b2 := F2.binds (ps := ["question"]) fun _ _ _ _ _ _ us hl => match us, hl with | [_], _ => rfl
  have m2 := PySem.W.mg_of X G a2
  have F3 := fun_mk (st := sTab) l3 c3 k3
  have b3 := F3.binds (ps := ["question"]) fun _ _ _ _ _ _ us hl => match us, hl with | [_], _ => rfl
  have m3 := PySem.W.mg_of X G a3
  have F5 := fun_mk (st := sEvn) l5 c5 k5
  have b5 := F5.binds (ps := ["question"]) fun _ _ _ _ _ _ us hl => match us, hl with | [_], _ => rfl
  have m5 := PySem.W.mg_of X G a5
  have F6 := fun_mk (st := sDeg) l6 c6 k6
  have b6 := F6.binds (ps := ["question", "names"]) fun _ _ _ _ _ _ us hl => match us, hl with | [_, _], _ => rfl
  have m6 := PySem.W.mg_of X G a6
  have F8 := fun_mk (st := sCell) l8 c8 k8
  have b8 := F8.binds (ps := ["script", "k"]) fun _ _ _ _ _ _ us hl => match us, hl with | [_, _], _ => rfl
  have m8 := PySem.W.mg_of X G a8
  have F9 := fun_mk (st := sSeed) l9 c9 k9
  have b9 := F9.binds (ps := ["cell"]) fun _ _ _ _ _ _ us hl => match us, hl with | [_], _ => rfl
  have m9 := PySem.W.mg_of X G a9
  have F10 := fun_mk (st := sDraw) l10 c10 k10
  have b10 := F10.binds (ps := ["seed", "most"]) fun _ _ _ _ _ _ us hl => match us, hl with | [_, _], _ => rfl
  have m10 := PySem.W.mg_of X G a10
  have F11 := fun_mk (st := sKey) l11 c11 k11
  have b11 := F11.binds (ps := ["value"]) fun _ _ _ _ _ _ us hl => match us, hl with | [_], _ => rfl
  have m11 := PySem.W.mg_of X G a11
  have F12 := fun_mk (st := sBag) l12 c12 k12
  have b12 := F12.binds (ps := ["counts"]) fun _ _ _ _ _ _ us hl => match us, hl with | [_], _ => rfl
  have m12 := PySem.W.mg_of X G a12
  have F13 := fun_mk (st := sAdd) l13 c13 k13
  have b13 := F13.binds (ps := ["counts", "bag", "many"]) fun _ _ _ _ _ _ us hl => match us, hl with | [_, _, _], _ => rfl
  have m13 := PySem.W.mg_of X G a13
  have F14 := fun_mk (st := sTru) l14 c14 k14
  have b14 := F14.binds (ps := ["claim", "values", "store"]) fun _ _ _ _ _ _ us hl => match us, hl with | [_, _, _], _ => rfl
  have m14 := PySem.W.mg_of X G a14
  have F15 := fun_mk (st := sBnd) l15 c15 k15
  have b15 := F15.binds (ps := ["asked", "values", "store"]) fun _ _ _ _ _ _ us hl => match us, hl with | [_, _, _], _ => rfl
  have m15 := PySem.W.mg_of X G a15
  have F16 := fun_mk (st := sAns) l16 c16 k16
  have b16 := F16.binds (ps := ["asked", "values", "store"]) fun _ _ _ _ _ _ us hl => match us, hl with | [_, _, _], _ => rfl
  have m16 := PySem.W.mg_of X G a16
  have F17 := fun_mk (st := sVal) l17 c17 k17
  have b17 := F17.binds (ps := ["kind", "seed", "deep"]) fun _ _ _ _ _ _ us hl => match us, hl with | [_, _, _], _ => rfl
  have m17 := PySem.W.mg_of X G a17
  have F18 := fun_mk (st := sKds) l18 c18 k18
  have b18 := F18.binds (ps := []) fun _ _ _ _ _ _ us hl => match us, hl with | [], _ => rfl
  have m18 := PySem.W.mg_of X G a18
  have F19 := fun_mk (st := sSto) l19 c19 k19
  have b19 := F19.binds (ps := ["seed"]) fun _ _ _ _ _ _ us hl => match us, hl with | [_], _ => rfl
  have m19 := PySem.W.mg_of X G a19
  have F20 := fun_mk (st := sSeen) l20 c20 k20
  have b20 := F20.binds (ps := ["scope"]) fun _ _ _ _ _ _ us hl => match us, hl with | [_], _ => rfl
  have m20 := PySem.W.mg_of X G a20
  have F21 := fun_mk (st := sHeld) l21 c21 k21
  have b21 := F21.binds (ps := ["kind", "scope"]) fun _ _ _ _ _ _ us hl => match us, hl with | [_, _], _ => rfl
  have m21 := PySem.W.mg_of X G a21
  have F22 := fun_mk (st := sSml) l22 c22 k22
  have b22 := F22.binds (ps := ["kind", "scope", "fuel", "seed"]) fun _ _ _ _ _ _ us hl => match us, hl with | [_, _, _, _], _ => rfl
  have m22 := PySem.W.mg_of X G a22
  have F23 := fun_mk (st := sClm) l23 c23 k23
  have b23 := F23.binds (ps := ["scope", "fuel", "seed"]) fun _ _ _ _ _ _ us hl => match us, hl with | [_, _, _], _ => rfl
  have m23 := PySem.W.mg_of X G a23
  have F24 := fun_mk (st := sOvr) l24 c24 k24
  have b24 := F24.binds (ps := ["scope", "fuel", "seed"]) fun _ _ _ _ _ _ us hl => match us, hl with | [_, _, _], _ => rfl
  have m24 := PySem.W.mg_of X G a24
  have F25 := fun_mk (st := sTak) l25 c25 k25
  have b25 := F25.binds (ps := ["kind", "scope", "fuel", "seed"]) fun _ _ _ _ _ _ us hl => match us, hl with | [_, _, _, _], _ => rfl
  have m25 := PySem.W.mg_of X G a25
  have F26 := fun_mk (st := sAsk) l26 c26 k26
  have b26 := F26.binds (ps := ["kind", "scope", "fuel", "seed"]) fun _ _ _ _ _ _ us hl => match us, hl with | [_, _, _, _], _ => rfl
  have m26 := PySem.W.mg_of X G a26
  have F27 := fun_mk (st := sChg) l27 c27 k27
  have b27 := F27.binds (ps := ["seed", "names", "way"]) fun _ _ _ _ _ _ us hl => match us, hl with | [_, _, _], _ => rfl
  have m27 := PySem.W.mg_of X G a27
  have F28 := fun_mk (st := sWth) l28 c28 k28
  have b28 := F28.binds (ps := ["store", "change"]) fun _ _ _ _ _ _ us hl => match us, hl with | [_, _], _ => rfl
  have m28 := PySem.W.mg_of X G a28
  have F31 := fun_mk (st := sNms) l31 c31 k31
  have b31 := F31.binds (ps := ["seed", "mark"]) fun _ _ _ _ _ _ us hl => match us, hl with | [_, _], _ => rfl
  have m31 := PySem.W.mg_of X G a31
  have F33 := fun_mk (st := sFst) l33 c33 k33
  have b33 := F33.binds (ps := ["cell"]) fun _ _ _ _ _ _ us hl => match us, hl with | [_], _ => rfl
  have m33 := PySem.W.mg_of X G a33
  have F34 := fun_mk (st := sLaw) l34 c34 k34
  have m_tuple := PySem.W.mg_none_of X G z_tuple
  have m_int := PySem.W.mg_none_of X G z_int
  have m_dict := PySem.W.mg_none_of X G z_dict
  have m_range := PySem.W.mg_none_of X G z_range
  have m_len := PySem.W.mg_none_of X G z_len
  have m_sorted := PySem.W.mg_none_of X G z_sorted
  have m_max := PySem.W.mg_none_of X G z_max
  have m_all := PySem.W.mg_none_of X G z_all
  have m_list := PySem.W.mg_none_of X G z_list
  have m_zip := PySem.W.mg_none_of X G z_zip
  refine ⟨PySem.W.fnOf "law" "law" (defArgs sLaw) (defBody sLaw) (defScope sLaw) .none kV34 dc34 pm34 an34 cd34 ct34, fun s v => .of_eq rfl, fun base _ _ => ?_⟩
  have Gcell := ok_cell (P := l.prog) (w := w) (base := base) (k := 0) F8 m_len
  have Gseed := ok_seed (P := l.prog) (w := w) (base := base) (k := 0) F9 m_max m_int
  have Gdraw := ok_draw (P := l.prog) (w := w) (mg := mg) (base := base) (k := 0) F10
  have Gkey := ok_key (P := l.prog) (w := w) (base := base) F11 b11 m11 m_tuple 8
  have Gbag := ok_bag F12 Gkey b11 k11 m11 m_sorted m_tuple
  have Gadd := ok_add (P := l.prog) (w := w) (mg := mg) (base := base) (k := 0) F13
  have Gans := (ok_ev F16 F14 F15 b16 m16 b14 m14 b15 m15 Gbag b12 k12 m12 Gadd b13 k13 m13 m_dict m_tuple m_int 80).1
  have Gval := ok_val F17 b17 m17 Gdraw b10 k10 m10 Gbag b12 k12 m12 m_tuple m_int m_range 8
  have Gkds := ok_kds (P := l.prog) (w := w) (mg := mg) (base := base) (k := 0) F18
  have Gsto := ok_sto F19 Gkds b18 k18 m18 Gval b17 k17 m17 m_sorted
  have Gseen := ok_seen (P := l.prog) (w := w) (base := base) (k := 0) F20 m_sorted
  have Gheld := ok_held F21 Gseen b20 k20 m20
  have Ggen := ok_gen F22 F23 F24 F25 F26 b22 m22 b23 m23 b24 m24 b25 m25 b26 m26 Gkds b18 k18 m18 Gseen b20 k20 m20 Gheld b21 k21 m21 Gval b17 k17 m17 Gdraw b10 k10 m10 m_len m_tuple m_int m_sorted 80
  have Gchg := ok_chg F27 Gkds b18 k18 m18 Gval b17 k17 m17 Gdraw b10 k10 m10
  have Gwth := ok_wth F28 Gbag b12 k12 m12 Gadd b13 k13 m13 m_dict
  have Gnms := ok_nms F31 Gdraw b10 k10 m10
  have Gund := ok_und (P := l.prog) (w := w) (base := base) (k := 0) F2 mF hF m_tuple m_zip
  have Gtab := ok_tab F3 Gund b2 k2 m2 m_list m_sorted
  have Gevn := ok_evn F5 b5 m5 Gund b2 k2 m2 Gtab b3 k3 m3 m_all 80
  have Gdeg := ok_deg (P := l.prog) (w := w) (base := base) F6 b6 m6 m_int m_max 80
  have Gfst := ok_fst F33 Gevn b5 k5 m5 Gdeg b6 k6 m6 Ggen.A b26 k26 m26 Gseed b9 k9 m9 Gkds b18 k18 m18 Gdraw b10 k10 m10 m_range
  exact ok_law F34 Gfst b33 k33 m33 Gcell b8 k8 m8 Gseed b9 k9 m9 Gsto b19 k19 m19 Gnms b31 k31 m31 Gchg b27 k27 m27 Gdeg b6 k6 m6 Gwth b28 k28 m28 Gans b16 k16 m16 Gbag b12 k12 m12 Gadd b13 k13 m13 m_range m_len m_sorted
theorem walk {l : PySem.W.OpenLaw} {q : Program} {loose : List Str} {XP : (Str → Option Value) → Heap → Prop} {YP : World → Heap → Prop} {d : DefRec} {K : Params → PySem.W.Frag} (hn : l.most = some 63) (hdf : d.params.defaults = [])
    (hY : ∀ (w : World) (h : Heap), YP w h → (K w.params).In h)
    (F : ∀ (w : World) (mg : Str → Option Value) (fa : Addr) (h : Heap), (K w.params).In h → h.Ns mainGlobals mg → mg d.name = some (.ref fa) →
      ∃ fd : FuncData, (∀ (s : Shared) (u : Value), BindsTo s fd ⟨[u], []⟩ [("script", u)]) ∧ ∀ base : Heap, (K w.params).In base → base.Ns mainGlobals mg → FnOk l.prog w (K w.params) mg base CX0 171 fa fd ["script"] (spLaw (K w.params))) :
    PySem.W.WalkO q loose XP YP l.row.toRowW d [] (fun f vs => PySem.call f vs) :=
  L2.walk_of (n := 63) (k := 171) (x := "script") (CX := fun _ => CX0) (sp := fun w => spLaw (K w.params)) hn (by decide) hdf ⟨rfl, by decide, by decide⟩ hY F (fun _ _ a ns hl _ hS => ⟨a, ns, rfl, hS, hl, fun _ => rfl⟩) fun _ _ _ _ _ z => z
end N97

/-! KaHead -/
set_option pp.maxSteps 60
set_option pp.deepTerms.threshold 3
open PySem PySem.W PyProof.Rows
set_option maxRecDepth 100000 in
set_option maxHeartbeats 0 in
theorem PySem.Challenge.cw_keptnest_k97_whole_alternating_sums_holds : PySem.Challenge.rw_keptnest_k97_whole_alternating_sums.Holds := by
  w_on; o_law; k_head; (case hw => w_witness2)
  k_fill
  refine N97.walk (l := PySem.Challenge.rw_keptnest_k97_whole_alternating_sums) rfl rfl (fun w h Y => PySem.W.kIn_of Y) ?F
  case F =>
    intro w mg fa h KX G hmg
    refine' N97.forms_cps (w := w) KX G ?aF ?lF ?kF ?e0 ?e1 ?e2 ?e3 ?e4 ?e5 ?e6 ?e7 ?e8 ?e9 ?e10 ?e11 ?e12 ?e13 ?e14 ?e15 ?e16 ?e17 ?e18 (fun mF hF => ?main)
    (case aF => k_is)
    (case lF => k_is)
    (case kF => k_keys)
    (case e0 => first | (clear hmg; k_is) | k_is)
    (case e1 => first | (clear hmg; k_is) | k_is)
    (case e2 => first | (clear hmg; k_is) | k_is)
    (case e3 => first | (clear hmg; k_is) | k_is)
    (case e4 => first | (clear hmg; k_is) | k_is)
    (case e5 => first | (clear hmg; k_is) | k_is)
    (case e6 => first | (clear hmg; k_is) | k_is)
    (case e7 => first | (clear hmg; k_is) | k_is)
    (case e8 => first | (clear hmg; k_is) | k_is)
    (case e9 => first | (clear hmg; k_is) | k_is)
    (case e10 => first | (clear hmg; k_is) | k_is)
    (case e11 => first | (clear hmg; k_is) | k_is)
    (case e12 => first | (clear hmg; k_is) | k_is)
    (case e13 => first | (clear hmg; k_is) | k_is)
    (case e14 => first | (clear hmg; k_is) | k_is)
    (case e15 => first | (clear hmg; k_is) | k_is)
    (case e16 => first | (clear hmg; k_is) | k_is)
    (case e17 => first | (clear hmg; k_is) | k_is)
    (case e18 => first | (clear hmg; k_is) | k_is)
    case main =>
    refine' N97.all_mk KX G hmg ?a2 ?l2 ?c2 ?k2 ?a3 ?l3 ?c3 ?k3 ?a5 ?l5 ?c5 ?k5 ?a6 ?l6 ?c6 ?k6 ?a8 ?l8 ?c8 ?k8 ?a9 ?l9 ?c9 ?k9 ?a10 ?l10 ?c10 ?k10 ?a11 ?l11 ?c11 ?k11 ?a12 ?l12 ?c12 ?k12 ?a13 ?l13 ?c13 ?k13 ?a14 ?l14 ?c14 ?k14 ?a15 ?l15 ?c15 ?k15 ?a16 ?l16 ?c16 ?k16 ?a17 ?l17 ?c17 ?k17 ?a18 ?l18 ?c18 ?k18 ?a19 ?l19 ?c19 ?k19 ?a20 ?l20 ?c20 ?k20 ?a21 ?l21 ?c21 ?k21 ?a22 ?l22 ?c22 ?k22 ?a23 ?l23 ?c23 ?k23 ?a24 ?l24 ?c24 ?k24 ?a25 ?l25 ?c25 ?k25 ?a26 ?l26 ?c26 ?k26 ?a27 ?l27 ?c27 ?k27 ?a28 ?l28 ?c28 ?k28 ?a31 ?l31 ?c31 ?k31 ?a33 ?l33 ?c33 ?k33 ?a34 ?l34 ?c34 ?k34 ?z_tuple ?z_int ?z_dict ?z_range ?z_len ?z_sorted ?z_max ?z_all ?z_list ?z_zip mF hF
    (case a2 => k_is); (case l2 => k_is); (case c2 => k_is); (case k2 => k_is)
    (case a3 => k_is); (case l3 => k_is); (case c3 => k_is); (case k3 => k_is)
    (case a5 => k_is); (case l5 => k_is); (case c5 => k_is); (case k5 => k_is)
    (case a6 => k_is); (case l6 => k_is); (case c6 => k_is); (case k6 => k_is)
    (case a8 => k_is); (case l8 => k_is); (case c8 => k_is); (case k8 => k_is)
    (case a9 => k_is); (case l9 => k_is); (case c9 => k_is); (case k9 => k_is)
    (case a10 => k_is); (case l10 => k_is); (case c10 => k_is); (case k10 => k_is)
    (case a11 => k_is); (case l11 => k_is); (case c11 => k_is); (case k11 => k_is)
    (case a12 => k_is); (case l12 => k_is); (case c12 => k_is); (case k12 => k_is)
    (case a13 => k_is); (case l13 => k_is); (case c13 => k_is); (case k13 => k_is)
    (case a14 => k_is); (case l14 => k_is); (case c14 => k_is); (case k14 => k_is)
    (case a15 => k_is); (case l15 => k_is); (case c15 => k_is); (case k15 => k_is)
    (case a16 => k_is); (case l16 => k_is); (case c16 => k_is); (case k16 => k_is)
    (case a17 => k_is); (case l17 => k_is); (case c17 => k_is); (case k17 => k_is)
    (case a18 => k_is); (case l18 => k_is); (case c18 => k_is); (case k18 => k_is)
    (case a19 => k_is); (case l19 => k_is); (case c19 => k_is); (case k19 => k_is)
    (case a20 => k_is); (case l20 => k_is); (case c20 => k_is); (case k20 => k_is)
    (case a21 => k_is); (case l21 => k_is); (case c21 => k_is); (case k21 => k_is)
    (case a22 => k_is); (case l22 => k_is); (case c22 => k_is); (case k22 => k_is)
    (case a23 => k_is); (case l23 => k_is); (case c23 => k_is); (case k23 => k_is)
    (case a24 => k_is); (case l24 => k_is); (case c24 => k_is); (case k24 => k_is)
    (case a25 => k_is); (case l25 => k_is); (case c25 => k_is); (case k25 => k_is)
    (case a26 => k_is); (case l26 => k_is); (case c26 => k_is); (case k26 => k_is)
    (case a27 => k_is); (case l27 => k_is); (case c27 => k_is); (case k27 => k_is)
    (case a28 => k_is); (case l28 => k_is); (case c28 => k_is); (case k28 => k_is)
    (case a31 => k_is); (case l31 => k_is); (case c31 => k_is); (case k31 => k_is)
    (case a33 => k_is); (case l33 => k_is); (case c33 => k_is); (case k33 => k_is)
    (case a34 => k_is); (case l34 => k_is); (case c34 => k_is); (case k34 => k_is)
    (case z_tuple => k_is)
    (case z_int => k_is)
    (case z_dict => k_is)
    (case z_range => k_is)
    (case z_len => k_is)
    (case z_sorted => k_is)
    (case z_max => k_is)
    (case z_all => k_is)
    (case z_list => k_is)
    (case z_zip => k_is)
