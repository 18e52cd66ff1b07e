import PyProof.Rows.All
import Wide.All
import OpenK.AllK
import Wide.FinOn
import HandS.ForMost
import HandS.SortRule
import HandS.SortInts
import HandS.Strs
import HandS.SetFor
import HandS.ExcValue
import PyProof.TupleOfSeq
import PyProof.Rows.SetFrom
import HandS.Zip
import HandS.Conv
import HandS.TupSets
import KE.KDictSum
import KE.KEqDict
import KE.KDictOf
import KE.KDictCopyH
import KE.KDictPairs
import KE.KDictDisplayH
import KE.GoesNew
import HandS.ForExc
import HandS.Style
import HandS.Deep
import HandS.TupAny
import HandS.IsInst
import HandS.Text
import HandS.RaiseMore
import HandS.TupMul
import HandS.More
import HandS.HeadHook1
import HandS.Lambda
import HandS.ExcInit
import HandS.ExcField
import HandS.ExcIs
import KE.GoesMore
import HandS.Walk
import HandS.Small
import KE.KExcInit
import HandS.Defaults
import HandS.Words
import KE.KExcIs
import HandS.Ends
import HandS.HeadEnd
import HandS.HeadHook2
import HandS.HeadHook3
import HandS.Head0
import HandS.Head1
import HandS.Head2
import PyProof.ReprLen
import PySem.Challenge.RW_setbooks_k01_errors_made
set_option Elab.async false
set_option linter.all false
set_option maxRecDepth 100000
set_option maxHeartbeats 0
/-! PZa -/
/-! PZ, part A: sorted of what can be gathered; sets of ints. -/
namespace PZ
open PySem PySem.Spec PyProof.Rows L2 SrtO
section
variable {prog : Program} {w : World} {A : Around} {E : Value → Shared → Prop} {s : Shared}
/-- sorted(v), v gathered into some list of which G tells -/
theorem sorted_col {v : Value} {G : List Value → Prop} {ltv : Value → Value → Bool} {Q : Value → Shared → Prop} (O : Swo ltv)
    (hcol : ∀ R : List Value → Shared → Prop, (∀ (s1 : Shared) (out : List Value), (∀ b o, s.heap.get? b = some o → s1.heap.get? b = some o) → s1.gens = s.gens → s1.os = s.os → G out → R out s1) → wpAny (model prog w) A.in1 (collect v) R E s)
    (hz : ∀ out, G out → out.length ≤ sizeLine)
    (hS : ∀ out, G out → 2 ≤ out.length → ∀ (s1 : Shared) (a : Addr), s1.heap.get? a = some (seqObj "list" out.toArray 0) → (∀ b o, s.heap.get? b = some o → s1.heap.get? b = some o) → SortableO prog w A.in1.in1 s1 a out ltv)
    (hQ : ∀ (s2 : Shared) (p : Addr) (out vs : List Value) (c : Nat), (∀ b o, s.heap.get? b = some o → s2.heap.get? b = some o) → s2.gens = s.gens → s2.os = s.os → s.heap.get? p = none → G vs → Srtd ltv out → Stb ltv out vs → s2.heap.get? p = some (seqObj "list" out.toArray c) → Q (.ref p) s2) :
    wpAny (model prog w) A (call (.builtin "sorted") [v]) Q E s := by
  refine Calls.call_function_entry kind_sorted plain_sorted entry_sorted (args_sorted1 _) ?_
  unfold Builtin.«sorted»
  refine wpAny_bind (m := checkCount "sorted" 1 1 _) (wpAny_pure ?_)
  refine wpAny_bind (hcol _ fun s1 vs k1 g1 o1 hG => ?_)
  refine wpAny_bind (wpAny_newList ?_ (hz vs hG))
  have at1 : (s1.heap.push (seqObj "list" vs.toArray 0)).get? s1.heap.objs.size = some (seqObj "list" vs.toArray 0) := Heap.get?_push_size _ rfl
  have old : ∀ b o, s.heap.get? b = some o → (s1.heap.push (seqObj "list" vs.toArray 0)).get? b = some o := fun b o q => Heap.get?_push_of_some _ (k1 b o q)
  refine wpAny_bind (wpAny_holding (wpAny_call_entry slot_list_sort ⟨_, at1, rfl⟩ entry_list_sort
    (list_sort_ord (s := { s1 with heap := s1.heap.push (seqObj "list" vs.toArray 0) }) O at1 (hz vs hG) (fun h2 => hS vs hG h2 _ _ at1 old) fun out hs hb => ⟨_, rfl, ?_⟩) (args_list_sort _)))
  obtain ⟨c, hc⟩ := sortedHeap_at (vs := vs) (out := out.toArray) at1
  refine wpAny_pure ⟨_, rfl, hQ _ s1.heap.objs.size out vs c (fun b u e => ?_) g1 o1 ?_ hG hs hb hc⟩
  rotate_left
  · cases q : s.heap.get? s1.heap.objs.size with
    | none => rfl
    | some o => exact absurd (Heap.lt_size (k1 _ o q)) (Nat.lt_irrefl _)
  have q := k1 b u e
  have hlt := Heap.lt_size q
  show (sortedHeap (s1.heap.push (seqObj "list" vs.toArray 0)) s1.heap.objs.size vs out.toArray).get? b = some u
  rw [sortedHeap_old (Nat.ne_of_lt hlt) (by rw [size_push']; exact Nat.lt_succ_of_lt hlt)]
  exact Heap.get?_push_of_some _ q
end
section
variable {X : Cx}
theorem objOk_there {P : Program} {w : World} {H : Hp} {h : Heap} {a : Addr} {o : HO} (x : ObjOk P w H h a o) : ∃ u, h.get? a = some u := by
  cases o with
  | lst xs => obtain ⟨_, _, _, _, e⟩ := x; exact ⟨_, e⟩
  | tup xs => obtain ⟨_, _, _, _, e, _⟩ := x; exact ⟨_, e⟩
  | dK kvs => obtain ⟨_, _, _, _, o, _, _, e, _⟩ := x; exact ⟨_, e⟩
  | dT kvs => obtain ⟨_, _, _, _, o, _, _, e, _⟩ := x; exact ⟨_, e⟩
  | set S n => obtain ⟨o, _, _, _, e, _⟩ := x; exact ⟨_, e⟩
  | ins C dx fs => obtain ⟨_, _, _, e, _⟩ := x; exact ⟨_, e⟩
  | own y => exact x
  | xd fs => obtain ⟨_, ⟨_, _, _, e, _⟩, _⟩ := x; exact ⟨_, e⟩
  | rng lo hi => obtain ⟨_, _, _, e⟩ := x; exact ⟨_, e⟩
  | frz ob u => obtain ⟨e, _⟩ := x; exact ⟨_, e⟩
  | tbl ps => exact ⟨_, x⟩
  | met f y => exact ⟨_, x⟩
  | ext φ => obtain ⟨_, e, _⟩ := x; exact e
theorem fresh_get {P : Program} {w : World} {H : Hp} {h : Heap} {a : Addr} (x : HOk P w H h) (e : h.get? a = none) : H a = none := by
  cases q : H a with
  | none => rfl
  | some o =>
    obtain ⟨u, z⟩ := objOk_there (x a o q)
    rw [e] at z
    cases z
/-- the state behind a call that laid a list at p -/
theorem laidL {pins : List (Addr × Obj)} {σ : L2.St} {H : Hp} {s s2 : Shared} {p : Addr} {ys : List V} {out : List Value} {c : Nat} (I : Inv X pins σ H s) (k : ∀ b o, s.heap.get? b = some o → s2.heap.get? b = some o) (g : s2.gens = s.gens) (o : s2.os = s.os) (hp : s.heap.get? p = none)
    (hl : ys.length ≤ sizeLine) (hv : Vals ys out) (hg : s2.heap.get? p = some (seqObj "list" out.toArray c)) : Inv X pins σ (upd H p (.lst ys)) s2 :=
  I.call' (ch := []) o (Un.laidN k hp (fresh_get I.hok hp)) (HOk.laidN I.hok k (fresh_get I.hok hp) ⟨hl, out, c, hv, hg⟩) (by rw [g]; exact I.bare) (fun _ z => nomatch z)
/-- sorted(xs), xs a tuple of pairs of ints -/
def rSortedPT : List V → Hp → VK → Prop := fun vs H Q => ∃ (a : Addr) (xs : List V) (k : V → Int × Int), vs = [V.ref a] ∧ H a = some (.tup xs) ∧ (∀ x ∈ xs, ∃ t, x = V.ref t ∧ H t = some (.tup [.int (k x).1, .int (k x).2])) ∧
  ∀ ys p, Srtd (ltP k) ys → Stb (ltP k) ys xs → H p = none → Q (.ref p) (upd H p (.lst ys))
theorem cr_sortedPT : CallR X (.builtin "sorted") rSortedPT := by
  intro pins s σ H vs us Q I r h
  obtain ⟨a, xs, k, rfl, hs, hx, q⟩ := h
  obtain ⟨hz, its, rv, o, ho, hc, n, hd⟩ := I.hok _ _ hs
  obtain ⟨u, rfl, ru⟩ := vals1 r
  obtain rfl : u = Value.ref a := ru
  obtain ⟨e1, e2⟩ := refs_back rv fun x m => by
    obtain ⟨t, e, _⟩ := hx x m
    exact ⟨t, e⟩
  have pr : ∀ v ∈ its, Srt.IsPair s.heap v (k (backV v)).1 (k (backV v)).2 := fun v hv => by
    obtain ⟨t, rfl⟩ := e2 v hv
    have hm : V.ref t ∈ xs := by rw [e1]; exact List.mem_map.mpr ⟨_, hv, rfl⟩
    obtain ⟨t', e, ht⟩ := hx _ hm
    cases e
    obtain ⟨_, its2, r2, o2, ho2, hc2, n2, hd2⟩ := I.hok _ _ ht
    obtain ⟨u1, u2, rfl, ri, rj⟩ := vals2 r2
    obtain ⟨t1, rfl⟩ := ri
    obtain ⟨t2, rfl⟩ := rj
    exact ⟨t, o2, t1, t2, n2, rfl, ho2, hc2, hd2⟩
  refine sorted_col (G := fun out => out = its) (swo_lex fun u => k (backV u)) (fun R hR => ?_) (fun out e => by rw [e, ← rv.length]; exact hz) (fun out e h2 s1 b hb kk => ?_) fun s2 p out vs c k2 g2 o2 hp e hs2 hb2 hat => ?_
  · refine wpAny_collect_seq a (.inr rfl) ho hc hd (fun h' hk => ?_) (by rw [List.size_toArray, ← rv.length]; exact hz)
    exact hR { s with heap := h' } _ hk rfl rfl (by simp)
  · subst e
    refine pairs_sortableO (by omega) (fun v hm => (pr v hm).keeps fun b o e _ => kk b o e) fun o e => ?_
    rw [hb] at e
    cases e
    intro c
    exact absurd (Value.type.inj c) (by decide)
  · subst e
    have h3 : ∀ u ∈ out, ∃ a, u = Value.ref a := fun u hu => e2 u (hb2.perm.mem_iff.mp hu)
    have hb : Stb (ltP k) (out.map backV) xs := by
      rw [e1]
      exact Stb.map (ltP_swo k) backV hb2
    exact ⟨.ref p, _, laidL I k2 g2 o2 hp (by rw [hb.len]; exact hz) (vals_back h3) hat, rfl, q _ p (srtd_map hs2) hb (fresh_get I.hok hp)⟩
end
end PZ

/-! PZb -/
/-! PZ, part B: set(xs) of a list of ints; sorted of such a set. -/
namespace PZ
open PySem PySem.Spec PyProof.Rows L2 SrtO
section
variable {prog : Program} {w : World} {A : Around} {E : Value → Shared → Prop} {s : Shared}
abbrev set0 (w : World) : Obj := { cls := .type "set", dict := none, data := .set #[] 0 (.fresh 0 0 (!w.params.followText "set-order")) }
/-- set(xs): its members, its size -/
theorem set_of_list {l : Addr} {items : Array Value} (ns : List Int) {Q : Value → Shared → Prop} (hh : A.handled = none) (hl : s.heap.IsList l items) (hit : IntsAre items.toList ns) (hb : ns.length + 1 < scanBound)
    (h : ∀ (h' : Heap) (tk c : Nat), SetR w h' s.heap.objs.size (fun j => decide (j ∈ ns)) c → c ≤ ns.length → (∀ b o, s.heap.get? b = some o → h'.get? b = some o) → Q (.ref s.heap.objs.size) { s with heap := h', toks := tk }) :
    wpAny (model prog w) A (call (.type "set") [.ref l]) Q E s := by
  have hisz : items.size = ns.length := by have q := IntsAre.length hit; rw [Array.length_toList] at q; exact q
  obtain ⟨c, tl, hmro⟩ := F.called_set.mro; have hmade := F.called_set.made; have hsub := F.called_set.sub
  refine wpAny_call (codeAny_of_tree ?_)
  show wpAny _ _ (callAny (.type "set") _) _ _ _
  refine wpAny_pure ⟨Code.quiet_builtin _ (by decide +kernel), codeAny_builtin F.entry_type_call ?_⟩
  rw [Around.under_plain (weight_type_call_type "set" [.ref l] []) rfl]
  have h1 := F.called_set.notType; have h2 := F.called_set.canCreate; have hct := F.typeCall_set_1 (.ref l)
  repeat (any_goals (first | assumption | wp_step))
  refine codeAny_mono (code_set_led1 (.ref l) (E := E) (Q₁ := fun obj s₁ => obj = .ref s.heap.objs.size ∧ s₁ = { s with heap := s.heap.push (set0 w) }) ⟨rfl, rfl⟩) fun r s₁ hr => ?_
  cases r with
  | error e => exact hr
  | ok fl =>
    cases fl with
    | ret obj =>
      obtain ⟨rfl, rfl⟩ := hr
      have hS : (s.heap.push (set0 w)).get? s.heap.objs.size = some (set0 w) := Heap.get?_push_size _ rfl
      have hT : Shared.TypeIs { s with heap := s.heap.push (set0 w) } (.ref s.heap.objs.size) "set" := ⟨_, hS, rfl⟩
      have hli := F.called_set.init.lookup; have hbi := F.called_set.init.bind (.ref s.heap.objs.size)
      repeat (any_goals (first | assumption | wp_step))
      refine codeAny_mono (codeAny_call_builtin (R := wants (fun r s₂ => r = .none ∧ ∃ h' tk c, s₂ = { s with heap := h', toks := tk } ∧ SetR w h' s.heap.objs.size (fun j => decide (j ∈ ns)) c ∧ c ≤ ns.length ∧ (∀ b o, s.heap.get? b = some o → h'.get? b = some o)) E)
        F.called_set.init.plain F.entry_set_init (check_set_init_1 hT ?_)) fun r₂ s₂ hr₂ => ?_
      · obtain ⟨ol, hol, hcl, nl, hdl⟩ := hl
        obtain ⟨ocls, odict, odata, oslots⟩ := ol
        simp only at hcl hdl; subst hcl; subst hdl
        have hol' : (s.heap.push (set0 w)).get? l = some { cls := .type "list", dict := odict, data := .seq items nl, slots := oslots } := Heap.get?_push_of_some _ hol
        have hsls := F.sub_list_set; have hslf := F.sub_list_frozenset
        have hne : (Value.type "list" == Value.type "dict") = false := by decide
        have hl1 : (s.heap.push (set0 w)).IsList l items := ⟨_, hol', rfl, nl, rfl⟩
        unfold Builtin.«set.__init__» noKeywords Builtin.Frozenset.updateFrom
        generalize hPI : pyIter = PI
        wp_walk
        subst hPI
        refine wpAny_pyIter_list hl1 ?_
        refine wpAny_bind (wpAny_runValue ?_)
        have hlS : l < s.heap.objs.size := Heap.lt_size hol
        have hh3 : A.in1.in1.in1.handled = none := by simp [hh]
        have hneI : l ≠ (s.heap.push (set0 w)).objs.size := by rw [Heap.size_push]; exact Nat.ne_of_lt (Nat.lt_succ_of_lt hlS)
        have hSf : s.heap.objs.size ∉ [(s.heap.push (set0 w)).objs.size, l] := by
          rw [Heap.size_push]; simp only [List.mem_cons, List.mem_singleton, List.not_mem_nil, or_false, not_or]; exact ⟨Nat.ne_of_lt (Nat.lt_succ_self _), Nat.ne_of_gt hlS⟩
        have hval : ∀ (i : Nat) (v : Value), items[i]? = some v → ∃ k t, ns[i]? = some k ∧ v = .int k t := fun i v hv => by
          have hi : i < ns.length := by rw [← hisz]; exact (Array.getElem?_eq_some_iff.mp hv).1
          obtain ⟨t, e⟩ := IntsAre.int_at hit i v (by rw [Array.getElem?_toList]; exact hv)
          refine ⟨ns[i], t, List.getElem?_eq_getElem hi, ?_⟩
          rw [e, List.getD_eq_getElem?_getD, List.getElem?_eq_getElem hi] <;> rfl
        refine set_update_ints ((Walks.list hh3 _ l hneI items).toS) s.heap.objs.size hSf ns hisz hb hval (items.size - 0) 0 _ (by omega) (Nat.zero_le _) ⟨⟨_, Heap.get?_push_size _ rfl, rfl, rfl⟩, (hl1.push _)⟩ ?hS0 ?hR
        case hS0 => exact ⟨0, Nat.le_refl 0, setR_new_at (Heap.get?_push_of_some _ hS)⟩
        case hR =>
          intro s' c' hm hc' hS'
          obtain ⟨h', g2, d', tk', os'⟩ := s'
          have eg : g2 = s.gens := hm.gens; have ed : d' = s.drawn := hm.drawn; have eo : os' = s.os := hm.os
          subst eg; subst ed; subst eo
          refine wpAny_pure (?_ : wpAny _ _ (ret Value.none) _ _ _)
          rw [hisz] at hc'
          refine wpAny_pure ⟨rfl, h', tk', c', rfl, hS', hc', fun b o e => ?_⟩
          have hb0 : b < s.heap.objs.size := Heap.lt_size e
          have hb1 : b ≠ s.heap.objs.size := Nat.ne_of_lt hb0
          have hb2 : b ≠ (s.heap.push (set0 w)).objs.size := by rw [Heap.size_push]; exact Nat.ne_of_lt (Nat.lt_succ_of_lt hb0)
          exact hm.heap b o (by simp only [List.mem_cons, List.mem_singleton, List.not_mem_nil, or_false, not_or]; exact ⟨hb1, hb2⟩) (Heap.get?_push_of_some _ (Heap.get?_push_of_some _ e))
      · cases r₂ with
        | error e => exact hr₂
        | ok fl₂ =>
          cases fl₂ with
          | ret r =>
            obtain ⟨rfl, h', tk, c', rfl, hS', hc', hk'⟩ := hr₂
            repeat (any_goals (first | assumption | wp_step))
            exact h _ _ _ hS' hc' hk'
          | _ => exact hr₂.elim
    | _ => exact hr.elim
/-- sorted of a set of ints of any size -/
theorem sorted_setN {a : Addr} {S : Int → Bool} {n : Nat} {Q : Value → Shared → Prop} (R : SetR w s.heap a S n) (hh : A.handled = none)
    (hQ : ∀ (s2 : Shared) (p : Addr) (out : List Value) (c : Nat) (ns : List Int), (∀ b o, s.heap.get? b = some o → s2.heap.get? b = some o) → s2.gens = s.gens → s2.os = s.os → s.heap.get? p = none → s2.heap.get? p = some (seqObj "list" out.toArray c) →
      IntsAre out ns → ns.Pairwise (· < ·) → (∀ k, k ∈ ns ↔ S k = true) → ns.length = n → Q (.ref p) s2) : wpAny (model prog w) A (call (.builtin "sorted") [.ref a]) Q E s := by
  obtain ⟨o, es, ep, t, ho, hex, hd, g, nd, hm, hb, hf, hn, hr, hl⟩ := R
  have hI : ∀ vs : List Value, vs.Perm (es.toList.map (·.2)) → IntsAre vs (vs.map Builtin.Re.reRawOf) := fun vs pm => ints_of vs fun v hv => by
    obtain ⟨e, he, q⟩ := List.mem_map.mp (pm.mem_iff.mp hv)
    obtain ⟨k, tk, h1, _⟩ := g e he
    exact ⟨k, tk, by rw [← q]; exact h1⟩
  refine sorted_col (G := fun vs => vs.Perm (es.toList.map (·.2))) swo_int (fun R hR => collect_set (A := A.in1) hh ⟨o, ho, hex.1, hd⟩ hf hb hr hl fun s1 vs k1 _ g1 o1 pm => hR s1 vs k1 g1 o1 pm)
    (fun vs pm => ?_) (fun vs pm h2 s1 b _ _ => ints_sortable (hI vs pm) h2) fun s2 p out vs c k2 g2 o2 hp pm h1 h2 hat => ?_
  · rw [pm.length_eq, List.length_map, Array.length_toList]
    unfold scanBound at hb
    rw [sizeLine_eq]
    omega
  · obtain ⟨k1, p2, k3⟩ := ints_out (hI vs pm) h1 h2
    have pk : (vs.map Builtin.Re.reRawOf).Perm (es.toList.map keyOf) := by
      have q := pm.map Builtin.Re.reRawOf
      rw [List.map_map] at q
      exact q
    have pn := p2.trans pk
    exact hQ s2 p out c _ k2 g2 o2 hp hat k1 (lt_of_le_nodup _ k3 (pn.nodup_iff.mpr nd)) (fun k => by rw [pn.mem_iff, ← hm k]) (by rw [pn.length_eq, List.length_map, Array.length_toList]; exact hn)
end
end PZ

/-! PZc -/
/-! PZ, part C: sorted(set(xs)), len(set(xs)). -/
namespace PZ
open PySem PySem.Spec PyProof.Rows L2 SrtO
theorem boot_sorted : bootBuiltins "sorted" = some (.builtin "sorted") := by decide +kernel
theorem boot_set' : bootBuiltins "set" = some (.type "set") := by decide +kernel
theorem boot_len' : bootBuiltins "len" = some (.builtin "len") := by decide +kernel
def tSortSet (K : PySem.W.Frag) (ta : TE) : TE := fun σ H Q => ta σ H fun x H1 => ∃ (l : Addr) (ns : List Int), x = .ref l ∧ SqL K H1 l (ns.map V.int) ∧ ns.length ≤ 4000 ∧
  ∀ (ms : List Int) (p : Addr), ms.Pairwise (· < ·) → (∀ k, k ∈ ms ↔ k ∈ ns) → H1 p = none → Q (.ref p) (upd H1 p (.lst (ms.map V.int)))
def tLenSet (K : PySem.W.Frag) (ta : TE) : TE := fun σ H Q => ta σ H fun x H1 => ∃ (l : Addr) (ns : List Int), x = .ref l ∧ SqL K H1 l (ns.map V.int) ∧ ns.length ≤ 4000 ∧
  ∀ ms : List Int, ms.Nodup → (∀ k, k ∈ ms ↔ k ∈ ns) → Q (.int (ms.length : Nat)) H1
section
variable {X : Cx} {a : Expr} {ta : TE} {p p2 q pos : Pos}
theorem pe_sortSet (hg : Gl X "sorted") (hm : X.mg "sorted" = none) (hg2 : Gl X "set") (hm2 : X.mg "set" = none) (ha : PE X a ta) (hc : X.calm = true) (na : starEach [a] X.env = (false, eval a X.env) :: starEach [] X.env) :
    PE X (.Call (.Name "sorted" p) [.Call (.Name "set" p2) [a] [] q] [] pos) (tSortSet X.K ta) := by
  refine ⟨fun pins s σ H Q I h => ?_⟩
  refine Call_ (ld_blt I hg hm boot_sorted ?_)
  refine callWith_builtin1 (args_cons ?_ rfl) rfl rfl
  refine Call_ (ld_blt I hg2 hm2 boot_set' ?_)
  refine callWith_type1 (args_cons (thn (ha.run pins s σ H _ I h) fun v s1 ⟨x, H1, I1, r1, q1⟩ => args_nil ?_) na) na rfl
  obtain ⟨l, ns, rfl, hq, hl, q1⟩ := q1
  cases r1
  obtain ⟨its, r, pl, hz⟩ := I1.list hq
  have hlen : its.toArray.size = ns.length := by rw [List.size_toArray, ← r.length, List.length_map]
  refine set_of_list ns (I1.ok.hd hc) pl.isList (by simpa using RZ.intsAre_vals r) (by unfold scanBound; omega) fun h' tk c hS hcl hk => ?_
  refine args_nil ?_
  have I2 : Inv X pins σ H1 { s1 with heap := h', toks := tk } := I1.kept fun b o e => hk b o e
  refine sorted_setN hS (I1.ok.hd hc) fun s2 p out c2 ms k2 g2 o2 hp hat hi hs hm hn => ?_
  have hml : ms.length ≤ 4000 := by omega
  exact ⟨.ref p, _, laidL I2 k2 g2 o2 hp (by rw [List.length_map, sizeLine_eq]; omega) (vals_of_ints hi) hat, rfl, q1 ms p hs (fun k => by rw [hm k]; simp) (fresh_get I2.hok hp)⟩
theorem pe_lenSet (hg : Gl X "len") (hm : X.mg "len" = none) (hg2 : Gl X "set") (hm2 : X.mg "set" = none) (ha : PE X a ta) (hc : X.calm = true) (na : starEach [a] X.env = (false, eval a X.env) :: starEach [] X.env) :
    PE X (.Call (.Name "len" p) [.Call (.Name "set" p2) [a] [] q] [] pos) (tLenSet X.K ta) := by
  refine ⟨fun pins s σ H Q I h => ?_⟩
  refine Call_ (ld_blt I hg hm boot_len' ?_)
  refine callWith_builtin1 (args_cons ?_ rfl) rfl rfl
  refine Call_ (ld_blt I hg2 hm2 boot_set' ?_)
  refine callWith_type1 (args_cons (thn (ha.run pins s σ H _ I h) fun v s1 ⟨x, H1, I1, r1, q1⟩ => args_nil ?_) na) na rfl
  obtain ⟨l, ns, rfl, hq, hl, q1⟩ := q1
  cases r1
  obtain ⟨its, r, pl, hz⟩ := I1.list hq
  refine set_of_list ns (I1.ok.hd hc) pl.isList (by simpa using RZ.intsAre_vals r) (by unfold scanBound; omega) fun h' tk c hS hcl hk => ?_
  refine args_nil ?_
  have I2 : Inv X pins σ H1 { s1 with heap := h', toks := tk } := I1.kept fun b o e => hk b o e
  obtain ⟨o, es, ep, t, ho, hex, hd, g, nd, hm, hb, hf, hn, _⟩ := hS
  have el : (es.toList.map keyOf).length = es.size := by simp
  have q2 := q1 (es.toList.map keyOf) nd (fun k => by rw [← hm k]; simp)
  rw [el] at q2
  exact call_len_set ho hex hd hf (by unfold scanBound at hb; omega) ⟨.int es.size, H1, I2.tok _, ⟨_, rfl⟩, q2⟩
end
end PZ

/-! PZd -/
/-! PZ, part D: tuples of ints, sorted; the keys of a dict of tuples; sets of tuples. -/
namespace PZ
open PySem PySem.Spec PyProof.Rows L2 SrtO
def lexL : List Int → List Int → Bool
  | x :: xs, y :: ys => if x = y then lexL xs ys else decide (x < y)
  | [], _ :: _ => true
  | _, [] => false
theorem lexL_asym : ∀ {a b : List Int}, lexL a b = true → lexL b a = false
  | [], [], h => by cases h
  | [], _ :: _, _ => rfl
  | _ :: _, [], h => by cases h
  | x :: xs, y :: ys, h => by
    unfold lexL at h ⊢
    by_cases e : x = y
    · rw [if_pos e] at h
      rw [if_pos e.symm]
      exact lexL_asym h
    · rw [if_neg e] at h
      rw [if_neg (fun z => e z.symm)]
      have h := of_decide_eq_true h
      exact decide_eq_false (by omega)
theorem lexL_tr : ∀ {a b c : List Int}, lexL b a = false → lexL c b = false → lexL c a = false
  | [], _, [], _, _ => rfl
  | [], _, _ :: _, _, _ => rfl
  | _ :: _, [], [], h, _ => by cases h
  | _ :: _, [], _ :: _, h, _ => by cases h
  | _ :: _, _ :: _, [], _, h => by cases h
  | x :: xs, y :: ys, z :: zs, h1, h2 => by
    unfold lexL at h1 h2 ⊢
    by_cases e1 : y = x
    · rw [if_pos e1] at h1
      by_cases e2 : z = y
      · rw [if_pos e2] at h2
        rw [if_pos (e2.trans e1)]
        exact lexL_tr h1 h2
      · rw [if_neg e2] at h2
        rw [if_neg (fun w => e2 (w.trans e1.symm)), ← e1]
        exact h2
    · rw [if_neg e1] at h1
      have h1 := of_decide_eq_false h1
      by_cases e2 : z = y
      · rw [e2, if_neg e1]
        exact decide_eq_false h1
      · rw [if_neg e2] at h2
        have h2 := of_decide_eq_false h2
        rw [if_neg (by omega)]
        exact decide_eq_false (by omega)
theorem swo_lexL {α : Type} (k : α → List Int) : Swo fun v u => lexL (k v) (k u) := ⟨fun _ _ h => lexL_asym h, fun _ _ _ h1 h2 => lexL_tr h1 h2⟩
/-- v is a tuple of the ints ns -/
def IsTI (h : Heap) (v : Value) (ns : List Int) : Prop := ∃ a o xs n, v = .ref a ∧ h.get? a = some o ∧ o.cls = .type "tuple" ∧ o.data = .seq xs n ∧ IntsAre xs.toList ns
theorem IsTI.keeps {h h' : Heap} {v : Value} {ns : List Int} (p : IsTI h v ns) (k : ∀ b o, h.get? b = some o → o.cls = .type "tuple" → h'.get? b = some o) : IsTI h' v ns := by
  obtain ⟨a, o, xs, n, e, ho, hc, r⟩ := p
  exact ⟨a, o, xs, n, e, k _ _ ho hc, hc, r⟩
section
variable {prog : Program} {w : World} {A : Around} {E : Value → Shared → Prop} {s : Shared}
theorem lex_run {Q : Bool → Shared → Prop} : ∀ {xs ys : List Value} {ns ms : List Int} (i : Nat), IntsAre xs ns → IntsAre ys ms → ns.length = ms.length → Q (lexL ns ms) s → PySem.W.KatLex prog w A true false Q (xs.zip ys) i s
  | _, _, _, _, _, .nil, .nil, _, h => PySem.W.kat_nil h
  | _, _, _, _, _, .nil, .cons _ _ _, e, _ => by simp at e
  | _, _, _, _, _, .cons _ _ _, .nil, e, _ => by simp at e
  | _, _, _, _, i, .cons x t hx, .cons y u hy, e, h => by
    refine PySem.W.kat_cons (SeqAt.EqAt.int_int x t y u prog w _ _ ?_)
    unfold lexL at h
    refine PySem.W.kat_go (fun e1 => ?_) (fun e1 => ?_)
    · have ex : x = y := by simpa using e1
      rw [if_pos ex] at h
      exact PySem.W.kat_yes (lex_run (i + 1) hx hy (by simpa using e) h)
    · have ex : ¬ x = y := by simpa using e1
      rw [if_neg ex] at h
      exact PySem.W.kat_no (TS.oneLt_ints _ h)
theorem firsts_ti {h : Heap} : ∀ {vs : List Value} {k : Value → List Int}, (∀ v ∈ vs, IsTI h v (k v) ∧ k v ≠ []) → ∃ fs : List Value, PySem.W.KatTups h vs fs ∧ fs.length = vs.length ∧ ∀ f ∈ fs, ∃ x t, f = Value.int x t
  | [], _, _ => ⟨[], PySem.W.KatTups.nil, rfl, fun _ hm => by simp at hm⟩
  | v :: vs, k, hp => by
    obtain ⟨fs, h1, h2, h3⟩ := firsts_ti (vs := vs) (k := k) fun v' hm => hp v' (List.mem_cons_of_mem _ hm)
    obtain ⟨⟨a, o, xs, n, e, ho, hc, hd, hi⟩, hne⟩ := hp v List.mem_cons_self
    subst e
    obtain ⟨x, t, hx⟩ : ∃ x t, xs[0]? = some (.int x t) := by
      cases q : k (.ref a) with
      | nil => exact absurd q hne
      | cons y r =>
        rw [q] at hi
        cases hz : xs.toList with
        | nil => rw [hz] at hi; cases hi
        | cons z zs =>
          rw [hz] at hi
          cases hi
          exact ⟨_, _, by rw [← Array.getElem?_toList, hz]; rfl⟩
    refine ⟨.int x t :: fs, PySem.W.KatTups.cons ho hc hd hx h1, by rw [List.length_cons, List.length_cons, h2], fun f hm => ?_⟩
    rcases List.mem_cons.mp hm with rfl | hm
    · exact ⟨x, t, rfl⟩
    · exact h3 f hm
theorem ti_sortable {a : Addr} {vs : List Value} {k : Value → List Int} {d : Nat} (hd1 : 1 ≤ d) (h0 : 0 < vs.length) (hp : ∀ v ∈ vs, IsTI s.heap v (k v) ∧ (k v).length = d) (ha : ∀ o, s.heap.get? a = some o → o.cls ≠ .type "tuple") : SortableO prog w A s a vs fun v u => lexL (k v) (k u) := by
  intro h' keep
  have hp' : ∀ v ∈ vs, IsTI h' v (k v) ∧ (k v).length = d := fun v hm => ⟨(hp v hm).1.keeps fun b o e c => keep b o (fun z => by subst z; exact ha o e c) e, (hp v hm).2⟩
  obtain ⟨fs, h1, h2, h3⟩ := firsts_ti (k := k) fun v hm => ⟨(hp' v hm).1, fun z => by have := (hp' v hm).2; rw [z] at this; simp at this; omega⟩
  refine ⟨tuples' true, fun Q E hq => ?_, fun p q hm hm' => ?_⟩
  · refine PySem.W.kat_kind (T := .type "int") h1 (by omega) (fun f hm => ?_) (by rfl) ?_
    · obtain ⟨x, t, rfl⟩ := h3 f hm
      exact PySem.W.Looks.now
    · have e : (Value.type "int" != Value.type "tuple") = true := by first | decide +kernel | rfl | decide
      rw [e]
      exact hq
  · obtain ⟨⟨a1, o1, xs, n1, e1, ho1, hc1, hd1', hi1⟩, hl1⟩ := hp' _ hm
    obtain ⟨⟨a2, o2, ys, n2, e2, ho2, hc2, hd2', hi2⟩, hl2⟩ := hp' _ hm'
    show wpAny (model prog w) A (keyLt' (tuples' true) p.1 q.1) (fun r s' => s' = { s with heap := h' } ∧ r = lexL (k p.1) (k q.1)) (fun _ _ => False) { s with heap := h' }
    generalize k p.1 = ns at hi1 hl1 ⊢
    generalize k q.1 = ms at hi2 hl2 ⊢
    rw [e1, e2]
    refine PySem.W.kat_lt ho1 hd1' ho2 hd2' ?_
    have sz : xs.size = ys.size := by
      have z1 := IntsAre.length hi1
      have z2 := IntsAre.length hi2
      rw [Array.length_toList] at z1 z2
      omega
    rw [show decide (xs.size < ys.size) = false from decide_eq_false (by omega)]
    exact lex_run 0 hi1 hi2 (by omega) ⟨rfl, rfl⟩
end
/-! ### as rules of the layer -/
section
variable {X : Cx}
abbrev ltL (k : V → List Int) (x y : V) : Bool := lexL (k x) (k y)
/-- the outcome of a sort of tuples: ys sorted by k, xs reordered -/
theorem sorted_ti {pins : List (Addr × Obj)} {σ : L2.St} {H : Hp} {s : Shared} {v : Value} {xs : List V} {k : V → List Int} {d : Nat} {Q : VK} {E : Value → Shared → Prop} (I : Inv X pins σ H s) (hd1 : 1 ≤ d) (hz : xs.length ≤ sizeLine)
    (hx : ∀ x ∈ xs, ∃ t, x = V.ref t ∧ H t = some (.tup ((k x).map V.int)) ∧ (k x).length = d)
    (hcol : ∀ R : List Value → Shared → Prop, (∀ (s1 : Shared) (out : List Value), (∀ b o, s.heap.get? b = some o → s1.heap.get? b = some o) → s1.gens = s.gens → s1.os = s.os → (∃ ys : List V, ys.Perm xs ∧ Vals ys out) → R out s1) → wpAny (model X.prog X.w) X.A.in1 (collect v) R E s)
    (q : ∀ ys p, Srtd (ltL k) ys → ys.Perm xs → H p = none → Q (.ref p) (upd H p (.lst ys))) : wpAny (model X.prog X.w) X.A (call (.builtin "sorted") [v]) (fun u s' => ∃ y H', Inv X pins σ H' s' ∧ RelV y u ∧ Q y H') E s := by
  have ti : ∀ (ys : List V) (out : List Value), ys.Perm xs → Vals ys out → ys = out.map backV ∧ (∀ u ∈ out, ∃ a, u = Value.ref a) ∧ ∀ u ∈ out, IsTI s.heap u (k (backV u)) ∧ (k (backV u)).length = d := fun ys out pm rv => by
    obtain ⟨e1, e2⟩ := refs_back rv fun x m => by
      obtain ⟨t, e, _⟩ := hx x (pm.mem_iff.mp m)
      exact ⟨t, e⟩
    refine ⟨e1, e2, fun u hu => ?_⟩
    obtain ⟨t, rfl⟩ := e2 u hu
    have hm : V.ref t ∈ ys := by rw [e1]; exact List.mem_map.mpr ⟨_, hu, rfl⟩
    obtain ⟨t', e, ht, hl⟩ := hx _ (pm.mem_iff.mp hm)
    cases e
    obtain ⟨_, its2, r2, o2, ho2, hc2, n2, hd2⟩ := I.hok _ _ ht
    exact ⟨⟨t, o2, _, n2, rfl, ho2, hc2, hd2, by show IntsAre _ (k (V.ref t)); simpa using RZ.intsAre_vals r2⟩, hl⟩
  refine sorted_col (G := fun out => ∃ ys : List V, ys.Perm xs ∧ Vals ys out) (swo_lexL fun u => k (backV u)) hcol (fun out ⟨ys, pm, rv⟩ => by rw [← rv.length, pm.length_eq]; exact hz) (fun out ⟨ys, pm, rv⟩ h2 s1 b hb kk => ?_) fun s2 p out vs c k2 g2 o2 hp ⟨ys, pm, rv⟩ hs2 hb2 hat => ?_
  · refine ti_sortable hd1 (by omega) (fun u hu => ⟨((ti ys out pm rv).2.2 u hu).1.keeps fun b o e _ => kk b o e, ((ti ys out pm rv).2.2 u hu).2⟩) fun o e => ?_
    rw [hb] at e
    cases e
    intro c
    exact absurd (Value.type.inj c) (by decide)
  · obtain ⟨e1, e2, _⟩ := ti ys vs pm rv
    have h3 : ∀ u ∈ out, ∃ a, u = Value.ref a := fun u hu => e2 u (hb2.perm.mem_iff.mp hu)
    have pm2 : (out.map backV).Perm xs := ((hb2.perm.map backV).trans (List.Perm.of_eq e1.symm)).trans pm
    exact ⟨.ref p, _, laidL I k2 g2 o2 hp (by rw [pm2.length_eq]; exact hz) (vals_back h3) hat, rfl, q _ p (srtd_map (lt := ltL k) hs2) pm2 (fresh_get I.hok hp)⟩
/-- the addresses of a dict's keys, in turn -/
theorem keys_collect {pins : List (Addr × Obj)} {σ : L2.St} {H : Hp} {s : Shared} {a : Addr} {kvs : List (List Key × V)} {E : Value → Shared → Prop} (hc : X.calm = true) (I : Inv X pins σ H s) (hd : Rd H a (.dT kvs)) :
    ∃ bs : List Addr, IsKeys H kvs bs ∧ ∀ R : List Value → Shared → Prop, (∀ (h' : Heap) (tk : Nat), (∀ b o, s.heap.get? b = some o → h'.get? b = some o) → R (bs.map Value.ref) { s with heap := h', toks := tk }) → wpAny (model X.prog X.w) X.A.in1 (collect (.ref a)) R E s := by
  obtain ⟨z, hs, ks, pr, o, es, ep, ho, hx, hdt, he, hn⟩ := (show ObjOk X.prog X.w H s.heap a (.dT kvs) from hd.ok I.hok)
  have l1 : es.size = ks.length := size_of_entries he
  have l2 : kvs.length = ks.length := Paired.length pr
  refine ⟨ks.map fun x => x.2.1, isKeys_of pr, fun R hR => ?_⟩
  refine PySem.W.kdu_collect (A := X.A.in1) (kdl_raw hs hx hdt) (I.ok.hd hc) ho (by omega) fun h' tk acc kp it => ?_
  have ea : acc.toList = (ks.map fun x => x.2.1).map Value.ref := by
    have hl : acc.toList.length = ks.length := by rw [Array.length_toList, it.1]; exact l1
    apply List.ext_getElem?
    intro j
    rw [List.map_map, List.getElem?_map]
    cases hj : acc.toList[j]? with
    | none =>
      have h1 := List.getElem?_eq_none_iff.mp hj
      rw [List.getElem?_eq_none (by omega)]
      all_goals rfl
    | some v =>
      obtain ⟨en, hen, hv⟩ := it.2 j v (by rw [← Array.getElem?_toList]; exact hj)
      have qe := entry_at he j
      rw [hen] at qe
      cases hb : ks[j]? with
      | none =>
        rw [hb] at qe
        exact nomatch (show some en = none from qe)
      | some b =>
        rw [hb] at qe
        have e2 : en = entryOfKey (tupleKind (mixKind X.prog X.w)) b := Option.some.inj qe
        rw [hv, e2]
        all_goals rfl
  rw [ea]
  exact hR h' tk kp
end
end PZ

/-! PZe -/
/-! PZ, part E: dicts with tuple keys: == and != with an empty one, copies, sorted keys. -/
namespace PZ
open PySem PySem.Spec PyProof.Rows L2 SrtO
section
variable {prog : Program} {w : World} {A : Around} {E : Value → Shared → Prop} {s : Shared}
theorem samePairs_empty {nm : String} {a b : Addr} {oa ob : Obj} {es es' : Array DictEntry} {ep ep' : Nat} {Q : Bool → Shared → Prop} (ha : (a == sysModules) = false) (hb : (b == sysModules) = false)
    (hoa : s.heap.get? a = some oa) (hda : oa.data = .dict es ep) (hob : s.heap.get? b = some ob) (hdb : ob.data = .dict es' ep') (he' : es'.size = 0) (h : Q es.isEmpty s) :
    wpAny (model prog w) A (Builtin.Dict.samePairs nm a b) Q E s := by
  unfold Builtin.Dict.samePairs Builtin.Dict.showsAll
  rw [if_neg (show ¬ (a == sysModules) = true by rw [ha]; exact Bool.false_ne_true), if_neg (show ¬ (b == sysModules) = true by rw [hb]; exact Bool.false_ne_true)]
  refine wpAny_bind (wpAny_pure (wpAny_bind (wpAny_pure ?_)))
  refine wpAny_bind (wpAny_dictEntries hoa hda ?_)
  dsimp only
  refine wpAny_bind (wpAny_dictEntries hob hdb ?_)
  by_cases hsz : es.size = es'.size
  · rw [if_neg (by rw [hsz]; simp)]
    have e0 : es.size = 0 := by omega
    refine wpAny_bind (wpAny_dictEpoch hoa hda ?_)
    refine wpAny_bind ?_
    rw [Std.Legacy.Range.forIn_eq_forIn_range']
    simp only [Std.Legacy.Range.size, Nat.sub_zero, Nat.add_sub_cancel, Nat.div_one, e0, List.range'_zero, List.forIn_nil]
    refine wpAny_pure ?_
    refine wpAny_pure ?_
    rw [show es.isEmpty = true from by simpa using e0] at h
    exact h
  · rw [if_pos (by simpa using hsz)]
    rw [show es.isEmpty = false from by
      cases q : es.isEmpty with
      | false => rfl
      | true => exact absurd (by simpa using q : es = #[]) (fun z => hsz (by rw [z, he']; rfl))] at h
    exact wpAny_bind (wpAny_rule (wpAny_pure h))
end
section
variable {X : Cx}
theorem empty_of {P : Program} {w : World} {H : Hp} {h : Heap} {a : Addr} {kvs : List (List Key × V)} (x : ObjOk P w H h a (.dT kvs)) : (a == sysModules) = false ∧ ∃ o es ep, h.get? a = some o ∧ o.ExactDict ∧ o.data = .dict es ep ∧ es.isEmpty = kvs.isEmpty ∧ es.size = kvs.length := by
  obtain ⟨z, hs, ks, pr, o, es, ep, ho, hx, hdt, he, hn⟩ := x
  have l1 : es.size = ks.length := size_of_entries he
  have l2 : kvs.length = ks.length := Paired.length pr
  refine ⟨hs, o, es, ep, ho, hx, hdt, ?_, by omega⟩
  cases kvs with
  | nil => have : es = #[] := Array.eq_empty_of_size_eq_zero (by rw [l1, ← l2]; rfl); rw [this]; rfl
  | cons p r =>
    have : es.size ≠ 0 := by rw [l1, ← l2]; simp
    cases q : es.isEmpty with
    | false => rfl
    | true => exact absurd (by simpa using q : es = #[]) (fun z => this (by rw [z]; rfl))
/-- d != {}: sizes only -/
theorem op_neE (hu : X.A.units < cLine) : OpR X (compareOp .NotEq) (fun x y H Q => ∃ a b kvs, x = .ref a ∧ y = .ref b ∧ Rd H a (.dT kvs) ∧ H b = some (.dT []) ∧ Q (.bl (!kvs.isEmpty)) H) := by
  intro pins s σ H x y v u Q I rx ry h
  obtain ⟨a, b, kvs, rfl, rfl, ha, hb, q⟩ := h
  cases rx
  cases ry
  obtain ⟨sa, oa, es, ep, hoa, hxa, hda, hea, _⟩ := empty_of (ha.ok I.hok)
  obtain ⟨sb, ob, es', ep', hob, hxb, hdb, _, heb⟩ := empty_of (show ObjOk X.prog X.w H s.heap b (.dT []) from I.hok _ _ hb)
  have ta : s.TypeIs (.ref a) "dict" := ⟨oa, hoa, hxa.1⟩
  have tb : s.TypeIs (.ref b) "dict" := ⟨ob, hob, hxb.1⟩
  refine wpAny_richCompare_same_room (op := .NotEq) ta tb PySem.F.slot_dict_ne (wpAny_call_entry PySem.F.slot_dict_ne ta PySem.F.entry_dict_ne ?_ (PySem.F.args_dict_ne_2 _ _)) hu
  show wpAny _ _ (Builtin.Dict.dictSlotArgs "__ne__" ⟨[.ref a, .ref b], []⟩ >>= _) _ _ s
  refine wpAny_bind ?_
  unfold Builtin.Dict.dictSlotArgs
  refine wpAny_bind (wpAny_notOrdered_dict ta ?_)
  show wpAny _ _ (pure (Value.ref a, Value.ref b)) _ _ s
  refine wpAny_pure ?_
  refine wpAny_bind (wpAny_isInstance (T := "dict") tb PySem.F.sub_dict_dict ?_)
  simp only [Bool.not_true, Bool.false_eq_true, if_false]
  refine wpAny_bind (wpAny_pure (wpAny_bind (wpAny_pure ?_)))
  refine wpAny_bind (samePairs_empty sa sb hoa hda hob hdb heb ?_)
  refine wpAny_pure ⟨_, rfl, ?_, ?_⟩
  · exact fun x => nomatch x
  · rw [hea]
    refine ⟨.bl (!kvs.isEmpty), H, I, ?_, q⟩
    cases kvs.isEmpty <;> rfl
theorem tupleKind_tuple {P : Program} {w : World} {h : Heap} {ks : List Key} {a : Addr} (k : (tupleKind (mixKind P w)).is h ks a) : ∃ o, h.get? a = some o ∧ o.cls = .type "tuple" := by
  obtain ⟨o, its, n, h1, h2, _⟩ := k
  exact ⟨o, h1, h2⟩
theorem KT.hashes {H : Hp} {h : List Key → Int} : ∀ {kvs : List (List Key × V)} {xs : List (List Key × Addr × Value)}, KT H kvs xs → kvs.map (fun p => h p.1) = xs.map fun x => h x.1
  | _, _, .nil => rfl
  | _, _, .cons q t => by rw [List.map_cons, List.map_cons, KT.hashes t, q.1]
theorem KT.keys {H : Hp} : ∀ {kvs : List (List Key × V)} {xs : List (List Key × Addr × Value)}, KT H kvs xs → kvs.map (·.1) = xs.map (·.1)
  | _, _, .nil => rfl
  | _, _, .cons q t => by rw [List.map_cons, List.map_cons, KT.keys t, q.1]
theorem KT.at' {H H' : Hp} (k : ∀ b xs, H b = some (.tup xs) → H' b = some (.tup xs)) : ∀ {kvs : List (List Key × V)} {xs : List (List Key × Addr × Value)}, KT H kvs xs → KT H' kvs xs := fun r => Paired.mapP r fun _ _ z => ⟨z.1, k _ _ z.2.1, z.2.2⟩
/-- dict(d), keys that are tuples -/
theorem cr_copyT (hu : X.A.units + 2 < cLine) : CallR X (.type "dict") (fun xs H Q => ∃ a kvs, xs = [.ref a] ∧ Rd H a (.dT kvs) ∧ (kvs.map fun p => (tupleKind (mixKind X.prog X.w)).hash p.1).Nodup ∧ ∀ p, H p = none → Q (.ref p) (upd H p (.dT kvs))) := by
  intro pins s σ H xs us Q I r q
  obtain ⟨a, kvs, ex, hd, hap, q⟩ := q
  subst ex
  obtain ⟨u, eu, rx⟩ := vals1 r
  subst eu
  cases rx
  obtain ⟨z, hs, ks, rel, dd⟩ := dt_rd I.hok hd
  have hl : kvs.length = ks.length := Paired.length rel
  rw [KT.hashes rel] at hap
  refine callType_codes (Q₁ := fun obj s₁ => obj = .ref s.heap.objs.size ∧ s₁ = { s with heap := s.heap.push { cls := .type "dict", data := .dict #[] } }) PySem.F.kt_called_dict (PySem.F.kt_typeCall_dict_1 _) PySem.F.entry_dict_init (kt_code_dict_new _ ⟨rfl, rfl⟩) ?_
  rintro obj s₁ ⟨rfl, rfl⟩
  have k0 : ∀ b o, s.heap.get? b = some o → (s.heap.push { cls := .type "dict", data := .dict #[] }).get? b = some o := fun b o e => Heap.get?_push_of_some _ e
  have hok' : HOk X.prog X.w H (s.heap.push { cls := .type "dict", data := .dict #[] }) := I.hok.kept fun b u e => k0 b u e
  obtain ⟨_, _, ks', rel', dd'⟩ := dt_rd hok' hd
  have hnew : (s.heap.push { cls := .type "dict", data := .dict #[] }).DictOfH (tupleKind (mixKind X.prog X.w)) s.heap.objs.size [] := ⟨_, #[], 0, Heap.get?_push_size _ rfl, ⟨rfl, rfl, rfl⟩, rfl, rfl, fun x hx => (List.not_mem_nil hx).elim, List.nodup_nil⟩
  have hty : s.heap.objs.size ≠ a := by
    obtain ⟨o, _, _, ho, _⟩ := id dd
    exact Nat.ne_of_gt (Heap.lt_size ho)
  refine ⟨hnew.typeIs, PySem.F.args_dict_init_2 _ _, ?_⟩
  unfold Builtin.«dict.__init__»
  refine wpAny_bind ?_
  unfold Builtin.Dict.selfAndRest
  refine wpAny_bind (wpAny_notOrdered_dict hnew.typeIs ?_)
  show wpAny _ _ (pure (s.heap.objs.size, [Value.ref a])) _ _ _
  refine wpAny_pure ?_
  show wpAny _ _ (Builtin.Dict.updateFrom "dict.__init__" s.heap.objs.size (.ref a) [] .none) _ _ _
  unfold Builtin.Dict.updateFrom
  refine wpAny_bind (wpAny_typeOf dd'.typeIs ?_)
  rw [if_neg (by decide)]
  refine wpAny_bind ?_
  unfold Builtin.Dict.merge
  refine wpAny_bind ?_
  unfold Builtin.Dict.readDirectly
  refine wpAny_bind (wpAny_isInstance dd'.typeIs isSubtype_dict_dict ?_)
  simp only [Bool.not_true, Bool.false_eq_true, if_false]
  refine wpAny_bind (wpAny_specialOf dd'.typeIs PySem.F.slot_dict_iter.lookup (wpAny_pure ?_))
  simp only [beq_self_eq_true, if_true]
  refine wpAny_bind (wpAny_pure ?_)
  have hap' : (ks'.map fun x => (tupleKind (mixKind X.prog X.w)).hash x.1).Nodup := by
    rw [← KT.hashes rel', KT.hashes rel]; exact hap
  have hl' : kvs.length = ks'.length := Paired.length rel'
  refine wpAny_mergeDict_heap (hsz := by rw [List.length_nil, Nat.zero_add, ← hl']; exact z) (tupleKind_room_in1 (show X.A.in1.units + 1 < cLine from hu)) hty hs hnew dd' (.inr ⟨fun x hx => ?_, hap'⟩) fun h' hd' _ hs' => ?_
  · obtain ⟨_, _, _, _, _, _, _, his, _⟩ := id dd'
    obtain ⟨o, h1, h2⟩ := tupleKind_tuple (his x hx)
    exact ⟨o, h1, h2⟩
  show wpAny _ _ (Builtin.Dict.addKeywords s.heap.objs.size [] >>= _) _ _ _
  rw [storedAllH_nil_of_nodup ks' dd'.nodup] at hd'
  refine wpAny_bind (wpAny_pure (wpAny_pure ⟨rfl, ?_⟩))
  have hm : (s.heap.objs.size == sysModules) = false := beq_eq_false_iff_ne.mpr (Nat.ne_of_gt I.big)
  have hp : H s.heap.objs.size = none := I.hok.fresh (Nat.le_refl _)
  have kp : ∀ b o, s.heap.get? b = some o → h'.get? b = some o := fun b o e => hs'.extBut b o (Nat.ne_of_lt (Heap.lt_size e)) (k0 b o e)
  obtain ⟨o, es, ep, g1, g2, g3, g4, _, g5⟩ := hd'
  refine ⟨.ref s.heap.objs.size, upd H s.heap.objs.size (.dT kvs), I.laid (t' := s.toks) kp (Nat.le_refl _) ?_, rfl, q _ hp⟩
  exact ⟨z, hm, ks', KT.at' (fun b xs e => by rw [upd_ne (ne_of_none e hp)]; exact e) rel', o, es, ep, g1, g2, g3, g4, g5⟩
/-- sorted(d): the keys, tuples of d ints each -/
theorem cr_sortedKeysT (hc : X.calm = true) {d : Nat} (hd1 : 1 ≤ d) : CallR X (.builtin "sorted") (fun xs H Q => ∃ a kvs, xs = [.ref a] ∧ Rd H a (.dT kvs) ∧ (∀ p ∈ kvs, ∃ ns : List Int, p.1 = ns.map Sum.inl ∧ ns.length = d) ∧
    ∀ p bs ys (k : V → List Int), H p = none → (kvs.map (·.1)).Nodup → IsKeys H kvs bs → Srtd (ltL k) ys → ys.Perm (bs.map V.ref) → (∀ b ∈ bs, H b = some (.tup ((k (.ref b)).map V.int)) ∧ (k (.ref b)).length = d) → Q (.ref p) (upd H p (.lst ys))) := by
  intro pins s σ H xs us Q I r q
  obtain ⟨a, kvs, ex, hd, hk, q⟩ := q
  subst ex
  obtain ⟨u, eu, rx⟩ := vals1 r
  subst eu
  cases rx
  obtain ⟨bs, hb, hcol⟩ := keys_collect (E := X.xe) hc I hd
  have z := (dt_rd I.hok hd).1
  have nd : (kvs.map (·.1)).Nodup := by
    obtain ⟨_, _, ks, rel, dd⟩ := dt_rd I.hok hd
    rw [KT.keys rel]
    exact dd.nodup
  have hlen : bs.length = kvs.length := (Paired.length hb).symm
  let kf : V → List Int := fun v => match v with
    | .ref b => (match H b with
      | some (.tup xs) => xs.filterMap fun x => match x with
        | .int i => some i
        | _ => none
      | _ => [])
    | _ => []
  have key : ∀ b ∈ bs, H b = some (.tup ((kf (.ref b)).map V.int)) ∧ (kf (.ref b)).length = d := fun b hm => by
    have : ∃ p ∈ kvs, H b = some (.tup (p.1.map kV)) := by
      clear q hcol hk hlen hd z nd
      induction hb with
      | nil => exact nomatch hm
      | cons h t ih =>
        rcases List.mem_cons.mp hm with e | e
        · subst e; exact ⟨_, List.mem_cons_self, h⟩
        · obtain ⟨p, h1, h2⟩ := ih e
          exact ⟨p, List.mem_cons_of_mem _ h1, h2⟩
    obtain ⟨p, hp, hH⟩ := this
    obtain ⟨ns, e1, e2⟩ := hk p hp
    have e3 : p.1.map kV = ns.map V.int := by rw [e1, List.map_map]; rfl
    rw [e3] at hH
    have e4 : kf (.ref b) = ns := by
      show (match H b with
        | some (.tup xs) => xs.filterMap fun x => match x with
          | .int i => some i
          | _ => none
        | _ => []) = ns
      rw [hH]
      simp only
      rw [List.filterMap_map]
      show ns.filterMap (fun i => some i) = ns
      simp
    rw [e4]
    exact ⟨hH, e2⟩
  refine sorted_ti (k := kf) (d := d) (xs := bs.map V.ref) I hd1 (by rw [List.length_map, hlen]; exact z) (fun x hx => ?_) (fun R hR => hcol R fun h' tk kp => hR _ _ kp rfl rfl ⟨bs.map V.ref, List.Perm.refl _, vals_refs bs⟩) fun ys p hs pm hp => q p bs ys kf hp nd hb hs pm key
  obtain ⟨b, hm, rfl⟩ := List.mem_map.mp hx
  exact ⟨b, rfl, key b hm⟩
end
end PZ

/-! PZf -/
/-! PZ, part F: dict(pairs) and {k: v} with tuple keys; sorted(set(tuples)). -/
namespace PZ
open PySem PySem.Spec PyProof.Rows L2 SrtO
def mergeT (kvs more : List (List Key × V)) : List (List Key × V) := more.foldl (fun acc kv => putK acc kv.1 kv.2) kvs
theorem KT.merge {H : Hp} : ∀ {more : List (List Key × V)} {rs : List (List Key × Addr × Value)} {kvs : List (List Key × V)} {vs : List (List Key × Addr × Value)}, KT H more rs → KT H kvs vs → KT H (mergeT kvs more) (storedAllH vs rs) := by
  intro more rs kvs vs r
  unfold KT at r
  induction r generalizing kvs vs with
  | nil => intro q; exact q
  | @cons p q ps qs h t ih =>
    intro r0
    have e : KT H (putK kvs p.1 p.2) (storedH vs q.1 q.2.1 q.2.2) := by
      have := KT.put r0 p.1 h.2.1 h.2.2
      rw [← h.1]; exact this
    exact ih e
theorem length_mergeT : ∀ (more kvs : List (List Key × V)), (mergeT kvs more).length ≤ kvs.length + more.length
  | [], kvs => by show kvs.length ≤ kvs.length + 0; omega
  | p :: r, kvs => by
    have h1 := length_mergeT r (putK kvs p.1 p.2)
    have h2 := length_putK kvs p.1 p.2
    show (mergeT (putK kvs p.1 p.2) r).length ≤ _
    rw [List.length_cons]; omega
section
variable {X : Cx}
abbrev PrT (K : PySem.W.Frag) (H : Hp) : List Addr → List (List Key × V) → Prop := Paired fun p kv => ∃ b, H p = some (.tup [.ref b, kv.2]) ∧ H b = some (.tup (kv.1.map kV))
theorem pairsT_of {pins : List (Addr × Obj)} {σ : L2.St} {H : Hp} {s : Shared} (I : Inv X pins σ H s) : ∀ {ps : List Addr} {kvs : List (List Key × V)}, PrT X.K H ps kvs →
    ∃ rs : List (List Key × Addr × Value), KT H kvs rs ∧ rs.length = ps.length ∧ (∀ x ∈ rs, H x.2.1 = some (.tup (x.1.map kV))) ∧ ∀ (j : Nat) (k v : Value), (rs.map fun x => (Value.ref x.2.1, x.2.2))[j]? = some (k, v) → ps[j]? = some (ps.getD j 0) ∧ IsTup s.heap (ps.getD j 0) #[k, v]
  | _, _, .nil => ⟨[], .nil, rfl, fun x hx => (List.not_mem_nil hx).elim, fun j k v e => by simp at e⟩
  | _, _, .cons (a := p) (b := kv) h t => by
    obtain ⟨rs, r, hl, hk, hp⟩ := pairsT_of I t
    obtain ⟨b, h1, h2⟩ := h
    obtain ⟨_, its, rv, ht⟩ := I.hok _ _ h1
    obtain ⟨u, y, ei, ru, ry⟩ := vals2 rv
    subst ei
    cases ru
    refine ⟨(kv.1, b, y) :: rs, .cons ⟨rfl, h2, ry⟩ r, by rw [List.length_cons, List.length_cons, hl], fun x hx => ?_, fun j k v e => ?_⟩
    · rcases List.mem_cons.mp hx with z | z
      · subst z; exact h2
      · exact hk x z
    · cases j with
      | zero =>
        have e' : (Value.ref b, y) = (k, v) := by simpa using e
        cases e'
        exact ⟨rfl, ht⟩
      | succ j =>
        obtain ⟨e1, e2⟩ := hp j k v (by simpa using e)
        exact ⟨by simpa using e1, by simpa using e2⟩
/-- dict(xs) of a list of pairs (tuple, value) -/
theorem cr_dictPT (hc : X.calm = true) (hu : X.A.units + 2 < cLine) : CallR X (.type "dict") (fun xs H Q => ∃ (a : Addr) (ps : List Addr) (kvs : List (List Key × V)), xs = [.ref a] ∧ SqL X.K H a (ps.map V.ref) ∧ PrT X.K H ps kvs ∧ ∀ p, H p = none → Q (.ref p) (upd H p (.dT (mergeT [] kvs)))) := by
  intro pins s σ H xs us Q I r q
  obtain ⟨a, ps, kvs, ex, hq, hp, q⟩ := q
  subst ex
  obtain ⟨u, eu, rx⟩ := vals1 r
  subst eu
  cases rx
  obtain ⟨its, rv, pl, hz⟩ := I.list hq
  have ei := refs_at rv
  subst ei
  rw [List.length_map] at hz
  obtain ⟨rs, rel, hl, hk, hpr⟩ := pairsT_of I hp
  obtain ⟨o, n, ho, hcl, hd, hdat⟩ := pl
  have hm : (s.heap.objs.size == sysModules) = false := beq_eq_false_iff_ne.mpr (Nat.ne_of_gt I.big)
  have hpn : H s.heap.objs.size = none := I.hok.fresh (Nat.le_refl _)
  refine call_dict_pairsH (knd := tupleKind (mixKind X.prog X.w)) (ps := rs) (PairArg.list a (ps.map Value.ref).toArray (fun j => ps.getD j 0) (rs.map fun x => (Value.ref x.2.1, x.2.2))) (I.ok.hd hc) (tupleKind_room_in1 (show X.A.in1.units + 1 < cLine from hu)) ⟨⟨o, n, ho, hcl, hd, hdat⟩, ?_, fun j k v e => ?_⟩ ⟨by rw [List.length_map], fun i key v e => ?_⟩ (fun h' hk' x hx => ?_) (by rw [List.length_map, hl]; exact hz) fun h' tk hd' kp => ?_
  · rw [List.size_toArray, List.length_map, List.length_map, hl]
  · obtain ⟨e1, e2⟩ := hpr j k v e
    refine ⟨?_, .inl ?_⟩
    · rw [List.getElem?_toArray, List.getElem?_map, e1]; rfl
    · obtain ⟨o, g1, g2, n, g3⟩ := e2
      exact ⟨o, g1, g2, n, g3⟩
  · have e : (rs.map fun x => (Value.ref x.2.1, x.2.2))[i]? = some (key, v) := e
    rw [List.getElem?_map] at e
    cases z : rs[i]? with
    | none => rw [z] at e; cases e
    | some x =>
      rw [z] at e
      obtain ⟨k1, b1, v1⟩ := x
      have e : (Value.ref b1, v1) = (key, v) := Option.some.inj e
      cases e
      exact ⟨k1, b1, rfl, rfl⟩
  · have e := hk x hx
    obtain ⟨_, its, r, o, h1, h2, n, h3⟩ := (show ObjOk X.prog X.w H s.heap x.2.1 (.tup (x.1.map kV)) from I.hok _ _ e)
    exact ⟨o, its.toArray, n, hk' _ _ (Nat.ne_of_lt (Heap.lt_size h1)) (fun z => nomatch z) h1, h2, h3, by simpa using items_are r⟩
  · have kp' : ∀ b o, s.heap.get? b = some o → h'.get? b = some o := fun b o e => kp b o (fun z => nomatch z) e
    obtain ⟨o, es, ep, g1, g2, g3, g4, _, g5⟩ := hd'
    have hlen : (mergeT [] kvs).length ≤ sizeLine := by
      refine Nat.le_trans (length_mergeT kvs []) ?_
      rw [List.length_nil, Nat.zero_add, Paired.length rel, hl]
      exact hz
    refine ⟨.ref s.heap.objs.size, upd H s.heap.objs.size (.dT (mergeT [] kvs)), I.laid (t' := tk) kp' (Nat.le_refl _) ?_, rfl, q _ hpn⟩
    exact ⟨hlen, hm, _, KT.at' (fun b xs e => by rw [upd_ne (ne_of_none e hpn)]; exact e) (KT.merge rel .nil), o, es, ep, g1, g2, g3, g4, g5⟩
/-- {k: v}, k a tuple -/
def tDisp1T (tk tv : TE) : TE := fun σ H Q => ∀ p, H p = none → tk σ (upd H p (.dT [])) fun x H1 => tv σ H1 fun y H2 => H2 p = some (.dT []) ∧ ∃ b ks, x = .ref b ∧ H2 b = some (.tup (ks.map kV)) ∧ Q (.ref p) (upd H2 p (.dT [(ks, y)]))
theorem pe_disp1T {ke ve : Expr} {tk tv : TE} {pos : Pos} (hu : X.A.units + 1 < cLine) (hk : PE X ke tk) (hv : PE X ve tv) : PE X (.Dict [some ke] [ve] pos) (tDisp1T tk tv) := by
  refine ⟨fun pins s σ H Q I q => ?_⟩
  have hn := I.hok.fresh (Nat.le_refl s.heap.objs.size)
  have I1 := I.laid (a := s.heap.objs.size) (o := .dT []) (h' := s.heap.push { cls := .type "dict", data := .dict #[] }) (t' := s.toks) (fun _ _ q => Heap.get?_push_of_some _ q) (Nat.le_refl _) (dt_empty s.heap I.big)
  have hs : (evalEachOpt [some ke] X.env).zip ((evalEach [ve] X.env).map fun v => do let x ← v; standAt pos; pure x) = (pairTrees [some ke] [ve] X.env pos).map fun p => (some p.1, p.2) := zip_pairTrees [some ke] [ve] X.env pos rfl rfl
  rw [arm_eval_Dict, hs, dictDisplay_pairs _ (by intro z; exact nomatch z) (by show 1 < 17; omega)]
  refine wpAny_bind (wpAny_standAt (wpAny_bind (wpAny_subDictH (knd := tupleKind (mixKind X.prog X.w)) (show X.A.units < cLine by omega) (by show 1 ≤ 15; omega) ?_)))
  refine pairTrees_cons_walk (thn (hk.run pins _ σ _ _ I1 (q _ hn)) fun u s1 ⟨x, H1, I2, rx, q1⟩ => thn (hv.run pins s1 σ H1 _ I2 q1) fun w2 s2 ⟨y, H2, I3, ry, e, b, ks, ex, hb, q2⟩ => ?_)
  subst ex
  cases rx
  refine pairTrees_nil_walk ⟨[(ks, b, w2)], ⟨rfl, rfl, key_of I3.hok hb, True.intro⟩, ?_, fun h' tk hd' hs' => wpAny_pure ?_⟩
  · obtain ⟨_, _, xs0, r0, dd⟩ := dt_of I3.hok e
    cases r0
    exact dd
  · obtain ⟨z, hd, _⟩ := dt_of I3.hok e
    obtain ⟨o, es, ep, g1, g2, g3, g4, _, g5⟩ := hd'
    refine ⟨.ref s.heap.objs.size, _, d_write (ob := .dT [(ks, y)]) (t' := tk) I3 (by rw [e]; exact True.intro) hs' ⟨o, g1⟩ ?_, rfl, q2⟩
    refine ⟨by rw [sizeLine_eq]; simp, hd, _, .cons ⟨rfl, ?_, ry⟩ .nil, o, es, ep, g1, g2, g3, g4, g5⟩
    show upd H2 _ _ b = _
    rw [upd_ne (ne_of hb e (fun z => nomatch z))]
    exact hb
/-! ### sorted(set(xs)), xs a list of tuples of d ints -/
def tSortSetT (K : PySem.W.Frag) (ta : TE) : TE := fun σ H Q => ta σ H fun x H1 => ∃ (l : Addr) (ks : List (Addr × List Int)) (d : Nat), x = .ref l ∧ SqL K H1 l (ks.map fun p => V.ref p.1) ∧ (∀ p ∈ ks, H1 p.1 = some (.tup (p.2.map V.int)) ∧ p.2.length = d) ∧ 1 ≤ d ∧ ks.length < 64 ∧
  ∀ (k : V → List Int) (ys : List V) (p : Addr), (∀ y ∈ ys, ∃ b, y = .ref b ∧ H1 b = some (.tup ((k y).map V.int)) ∧ (k y).length = d) → Srtd (ltL k) ys → (ys.map k).Nodup → (∀ ns, ns ∈ ys.map k ↔ ns ∈ ks.map (·.2)) → H1 p = none → Q (.ref p) (upd H1 p (.lst ys))
def kAt (H : Hp) (v : V) : List Int := match v with
  | .ref b => (match H b with
    | some (.tup xs) => xs.filterMap fun x => match x with
      | .int i => some i
      | _ => none
    | _ => [])
  | _ => []
theorem kAt_of {H : Hp} {b : Addr} {ns : List Int} (h : H b = some (.tup (ns.map V.int))) : kAt H (.ref b) = ns := by
  unfold kAt
  simp only [h]
  rw [List.filterMap_map]
  show ns.filterMap (fun i => some i) = ns
  simp
theorem pe_sortSetT {a : Expr} {ta : TE} {p p2 q pos : Pos} (hg : Gl X "sorted") (hm : X.mg "sorted" = none) (hg2 : Gl X "set") (hm2 : X.mg "set" = none) (ha : PE X a ta) (hc : X.calm = true) (hu : X.A.units + 64 < cLine) (na : starEach [a] X.env = (false, eval a X.env) :: starEach [] X.env) :
    PE X (.Call (.Name "sorted" p) [.Call (.Name "set" p2) [a] [] q] [] pos) (tSortSetT X.K ta) := by
  refine ⟨fun pins s σ H Q I h => ?_⟩
  refine Call_ (ld_blt I hg hm boot_sorted ?_)
  refine callWith_builtin1 (args_cons ?_ rfl) rfl rfl
  refine Call_ (ld_blt I hg2 hm2 boot_set' ?_)
  refine callWith_type1 (args_cons (thn (ha.run pins s σ H _ I h) fun v s1 ⟨x, H1, I1, r1, q1⟩ => args_nil ?_) na) na rfl
  obtain ⟨l, ks, d, rfl, hq, hk, hd1, hf, q1⟩ := q1
  cases r1
  obtain ⟨its, r, pl, hz⟩ := I1.list hq
  refine call_set_tups (P := X.prog) (w := X.w) ks (I1.ok.hd hc) pl.isList (by simpa using refs_of_vals r) (fun p hp => I1.isT (SqT.of (hk p hp).1)) hf (by omega) fun h' tk L es ep t R g kp => ?_
  refine args_nil ?_
  have I2 : Inv X pins σ H1 { s1 with heap := h', toks := tk } := I1.kept fun b o e => kp b o e
  have sub : ∀ p ∈ L, p ∈ ks := fun p hp => List.mem_of_mem_take (g.sub p hp)
  have all : ∀ p ∈ ks, p.2 ∈ L.map (·.2) := fun p hp => g.all p (by rw [List.take_length]; exact hp)
  obtain ⟨o, ho, hex, hd⟩ := R.ob
  have hsz := SetTR.size (s := { s1 with heap := h', toks := tk }) R
  have hfew := R.few
  have hes : es.toList.map (·.2) = L.map fun q => Value.ref q.1 := by
    rw [R.rows]
    unfold rowsOf
    rw [List.map_map] <;> rfl
  have hkey : ∀ p ∈ L, H1 p.1 = some (.tup ((kAt H1 (.ref p.1)).map V.int)) ∧ kAt H1 (.ref p.1) = p.2 ∧ p.2.length = d := fun p hp => by
    have e := hk p (sub p hp)
    rw [kAt_of e.1]
    exact ⟨e.1, rfl, e.2⟩
  refine sorted_ti (k := kAt H1) (d := d) (xs := L.map fun q => V.ref q.1) I2 hd1 (by rw [List.length_map, sizeLine_eq]; omega) (fun x hx => ?_) (fun R' hR' => collect_set (A := X.A.in1) (I1.ok.hd hc) ⟨o, ho, hex.1, hd⟩ (SetTR.fits (s := { s1 with heap := h', toks := tk }) R) (by unfold scanBound; omega) R.tab.ris R.led fun s2 vs k1 hz g1 o1 pm => hR' _ _ k1 g1 o1 ?_) fun ys p hs pm hp => ?_
  · obtain ⟨b, hm, rfl⟩ := List.mem_map.mp hx
    obtain ⟨e1, e2, e3⟩ := hkey b hm
    exact ⟨b.1, rfl, e1, by rw [e2]; exact e3⟩
  · rw [hes] at pm
    have href : ∀ u ∈ vs, ∃ a, u = Value.ref a := fun u hu => by
      obtain ⟨q, _, e⟩ := List.mem_map.mp (pm.mem_iff.mp hu)
      exact ⟨q.1, e.symm⟩
    refine ⟨vs.map backV, ?_, vals_back href⟩
    have e : (L.map fun q => V.ref q.1) = (L.map fun q => Value.ref q.1).map backV := by rw [List.map_map]; rfl
    rw [e]
    exact pm.map backV
  · have hy : ∀ y ∈ ys, ∃ q ∈ L, y = V.ref q.1 := fun y hy => by
      obtain ⟨q, h1, h2⟩ := List.mem_map.mp (pm.mem_iff.mp hy)
      exact ⟨q, h1, h2.symm⟩
    have hmap : (ys.map (kAt H1)).Perm (L.map (·.2)) := by
      have e : L.map (·.2) = (L.map fun q => V.ref q.1).map (kAt H1) := by
        rw [List.map_map]
        exact List.map_congr_left fun q hq => ((hkey q hq).2.1).symm
      rw [e]
      exact pm.map _
    refine q1 (kAt H1) ys p (fun y hm => ?_) hs (hmap.nodup_iff.mpr R.nd) (fun ns => ?_) hp
    · obtain ⟨q, h1, rfl⟩ := hy y hm
      obtain ⟨e1, e2, e3⟩ := hkey q h1
      exact ⟨q.1, rfl, e1, by rw [e2]; exact e3⟩
    · rw [hmap.mem_iff]
      refine ⟨fun z => ?_, fun z => ?_⟩
      · obtain ⟨q, h1, rfl⟩ := List.mem_map.mp z
        exact List.mem_map.mpr ⟨q, sub q h1, rfl⟩
      · obtain ⟨q, h1, rfl⟩ := List.mem_map.mp z
        exact all q h1
end
end PZ

/-! PZg -/
/-! PZ, part G: zip of three tuples. -/
namespace PZ
open PySem PySem.Spec PyProof.Rows L2 SrtO
/-- the tuples at a, b, c as they stand at each turn, the items in new triples -/
def Itz3 (K : PySem.W.Frag) (a b c : Addr) : It :=
  ⟨fun i H => ∃ (xs ys zs : List V) (x y z : V), SqT K H a xs ∧ SqT K H b ys ∧ SqT K H c zs ∧ xs[i]? = some x ∧ ys[i]? = some y ∧ zs[i]? = some z,
    fun i H v H' => ∃ T x y z, v = .ref T ∧ H T = none ∧ H' = upd H T (.tup [x, y, z]) ∧ (∀ xs, SqT K H a xs → xs[i]? = some x) ∧ (∀ ys, SqT K H b ys → ys[i]? = some y) ∧ ∀ zs, SqT K H c zs → zs[i]? = some z,
    fun i H => ∃ xs ys zs : List V, SqT K H a xs ∧ SqT K H b ys ∧ SqT K H c zs ∧ i ≤ xs.length ∧ i ≤ ys.length ∧ i ≤ zs.length ∧ (i = xs.length ∨ i = ys.length ∨ i = zs.length)⟩
theorem turn_zip3 {P : Program} {w : World} {K : PySem.W.Frag} {elts : List Expr} {kk : Nat} {tpos : Pos} {a b c z TI TO i1 i2 i3 : Addr} (S : ZipSep3 z TI TO i1 i2 i3 [i1, a] [i2, b] [i3, c]) (na : a ≠ i1) (nb : b ≠ i2) (nc : c ≠ i3) :
    Turn P w K (.Tuple elts kk tpos) (Itz3 K a b c) [z, TI, TO, i1, i2, i3] z (fun i h => IsZip h z TI TO .none ∧ IsTupOf3 h TI (.ref i1) (.ref i2) (.ref i3) ∧ (∃ x y q, IsTupOf3 h TO x y q) ∧ h.IsTupleIter i1 a i ∧ h.IsTupleIter i2 b i ∧ h.IsTupleIter i3 c i) where
  mem := by simp
  obj := fun i h st d hd => by
    obtain ⟨hz, hTI, ⟨x, y, q, hTO⟩, ⟨o1, e1, _, d1⟩, ⟨o2, e2, _, d2⟩, ⟨o3, e3, _, d3⟩⟩ := st
    have e' : d = z ∨ d = TI ∨ d = TO ∨ d = i1 ∨ d = i2 ∨ d = i3 := by simpa using hd
    rcases e' with q | q | q | q | q | q
    · rw [q]; exact ⟨_, hz, fun v q => nomatch q⟩
    · rw [q]; exact ⟨_, hTI, fun v q => nomatch q⟩
    · rw [q]; exact ⟨_, hTO, fun v q => nomatch q⟩
    · rw [q]; exact ⟨o1, e1, fun v q => by rw [d1] at q; cases q⟩
    · rw [q]; exact ⟨o2, e2, fun v q => by rw [d2] at q; cases q⟩
    · rw [q]; exact ⟨o3, e3, fun v q => by rw [d3] at q; cases q⟩
  keep := fun i h h' st k => by
    obtain ⟨hz, hTI, ⟨x, y, q, hTO⟩, h1, h2, h3⟩ := st
    exact ⟨k z (by simp) _ hz, k TI (by simp) _ hTI, ⟨x, y, q, k TO (by simp) _ hTO⟩, h1.at fun o q => k i1 (by simp) o q, h2.at fun o q => k i2 (by simp) o q, h3.at fun o q => k i3 (by simp) o q⟩
  item := by
    intro X hP hw hK hc i pins s σ H E I hf st hg
    subst hP hw hK
    obtain ⟨hz, hTI, ⟨x0, y0, q0, hTO⟩, h1, h2, h3⟩ := st
    obtain ⟨xs, ys, zs, x, y, q, hqx, hqy, hqz, hx, hy, hq⟩ := hg
    obtain ⟨its, rv, p, _⟩ := I.tuple hqx
    obtain ⟨its2, rv2, p2, _⟩ := I.tuple hqy
    obtain ⟨its3, rv3, p3, _⟩ := I.tuple hqz
    obtain ⟨u, hu, ru⟩ := rv.get hx
    obtain ⟨u2, hu2, ru2⟩ := rv2.get hy
    obtain ⟨u3, hu3, ru3⟩ := rv3.get hq
    have hzl : z < s.heap.objs.size := Heap.lt_size hz
    have hh := I.ok.hd hc
    refine wpAny_pyNext_zipD3_item S (Draws.tuple (A := X.A.in1) hh i1 a na its.toArray) (Draws.tuple (A := X.A.in1) hh i2 b nb its2.toArray) (Draws.tuple (A := X.A.in1) hh i3 c nc its3.toArray) hz hTI hTO ⟨h1, p⟩ ⟨h2, p2⟩ ⟨h3, p3⟩
      (by have := (List.getElem?_eq_some_iff.mp hu).1; simpa using this) (by have := (List.getElem?_eq_some_iff.mp hu2).1; simpa using this) (by have := (List.getElem?_eq_some_iff.mp hu3).1; simpa using this) fun v1 v2 v3 h' tk y1 y2 y3 z' TO' t1 t2 t3 hT hsz hk => ?_
    have e1 : v1 = u := by
      have : its[i]? = some v1 := by simpa using y1
      rw [hu] at this
      exact (Option.some.inj this).symm
    have e2 : v2 = u2 := by
      have : its2[i]? = some v2 := by simpa using y2
      rw [hu2] at this
      exact (Option.some.inj this).symm
    have e3 : v3 = u3 := by
      have : its3[i]? = some v3 := by simpa using y3
      rw [hu3] at this
      exact (Option.some.inj this).symm
    subst e1 e2 e3
    refine ⟨_, rfl, wpAny_letOwnedTupleGo_zip (s := { s with heap := h', toks := tk }) z' fun h'' z'' sb => ?_⟩
    have hT2 : h''.get? s.heap.objs.size = some { cls := .type "tuple", data := .seq #[v1, v2, v3] } := (sb.2 _ (Nat.ne_of_gt hzl)).trans hT
    have new : ObjOk X.prog X.w (upd H s.heap.objs.size (.tup [x, y, q])) h'' s.heap.objs.size (.tup [x, y, q]) :=
      ⟨by show 3 ≤ sizeLine; decide, [v1, v2, v3], .cons ru (.cons ru2 (.cons ru3 .nil)), ⟨_, hT2, rfl, _, rfl⟩⟩
    have I1 : Inv X pins σ (upd H s.heap.objs.size (.tup [x, y, q])) { s with heap := h'', toks := tk } :=
      I.turnedNew (t' := tk) (ch := [z, TI, TO, i1, i2, i3]) (fun c o hb q => (sb.2 c (fun q' => hb (by simp [q']))).trans (hk c o (fun q' => hb (by simp [q'])) (fun q' => hb (by simp [q'])) (fun q' => hb (by simp [q'])) (fun q' => hb (by simp [q'])) (fun q' => hb (by simp [q'])) q)) hf (Nat.le_refl _) new
    refine ⟨.ref s.heap.objs.size, _, I1, rfl, ⟨_, x, y, q, rfl, I.hok.fresh (Nat.le_refl _), rfl, fun l hl => by rw [I.tuple_inj hl hqx]; exact hx, fun l hl => by rw [I.tuple_inj hl hqy]; exact hy, fun l hl => by rw [I.tuple_inj hl hqz]; exact hq⟩, ⟨z'', ?_, ⟨v1, v2, v3, ?_⟩, ?_, ?_, ?_⟩, fun c hcm => ?_⟩
    · exact (sb.2 _ S.TIz).trans (hk _ _ S.TIz S.TITO S.TIi1 S.TIi2 S.TIi3 hTI)
    · exact (sb.2 _ S.TOz).trans TO'
    · exact t1.1.at fun o q => (sb.2 _ (Ne.symm S.zi1)).trans q
    · exact t2.1.at fun o q => (sb.2 _ (Ne.symm S.zi2)).trans q
    · exact t3.1.at fun o q => (sb.2 _ (Ne.symm S.zi3)).trans q
    · have hlt : c < s.heap.objs.size := by
        have e' : c = z ∨ c = TI ∨ c = TO ∨ c = i1 ∨ c = i2 ∨ c = i3 := by simpa using hcm
        rcases e' with q | q | q | q | q | q
        · rw [q]; exact hzl
        · rw [q]; exact Heap.lt_size hTI
        · rw [q]; exact Heap.lt_size hTO
        · rw [q]; obtain ⟨_, e1, _⟩ := h1; exact Heap.lt_size e1
        · rw [q]; obtain ⟨_, e2, _⟩ := h2; exact Heap.lt_size e2
        · rw [q]; obtain ⟨_, e3, _⟩ := h3; exact Heap.lt_size e3
      rw [upd_ne (Nat.ne_of_lt hlt)]
      exact (hf c hcm).1
  done := by
    intro X hP hw hK hc i pins s σ H E I hf st hg
    subst hP hw hK
    obtain ⟨hz, hTI, ⟨x0, y0, q0, hTO⟩, h1, h2, h3⟩ := st
    obtain ⟨xs, ys, zs, hqx, hqy, hqz, l1, l2, l3, hend⟩ := hg
    obtain ⟨its, rv, p, _⟩ := I.tuple hqx
    obtain ⟨its2, rv2, p2, _⟩ := I.tuple hqy
    obtain ⟨its3, rv3, p3, _⟩ := I.tuple hqz
    have r1 := rv.length
    have r2 := rv2.length
    have r3 := rv3.length
    have hh := I.ok.hd hc
    refine wpAny_pyNext_zipD3_end S (Draws.tuple (A := X.A.in1) hh i1 a na its.toArray) (Draws.tuple (A := X.A.in1) hh i2 b nb its2.toArray) (Draws.tuple (A := X.A.in1) hh i3 c nc its3.toArray) hz hTI hTO ⟨h1, p⟩ ⟨h2, p2⟩ ⟨h3, p3⟩
      (by rw [List.size_toArray]; omega) (by rw [List.size_toArray]; omega) (by rw [List.size_toArray]; omega) (by rw [List.size_toArray, List.size_toArray, List.size_toArray]; omega) fun h' tk hk => ⟨rfl, I.turnedL (t' := tk) (ch := [z, TI, TO, i1, i2, i3]) (fun c o hb q =>
      hk c o (fun q' => hb (by simp [q'])) (fun q' => hb (by simp [q'])) (fun q' => hb (by simp [q'])) (fun q' => hb (by simp [q'])) (fun q' => hb (by simp [q'])) q) hf⟩
  self := fun A i s Q E st h => wpAny_pyIter_zip st.1 h
def iZip3 (K : PySem.W.Frag) (ta : TA) : TI := fun σ H R => ta σ H fun vs H1 => ∃ a b c xs ys zs, vs = [.ref a, .ref b, .ref c] ∧ SqT K H1 a xs ∧ SqT K H1 b ys ∧ SqT K H1 c zs ∧ R (Itz3 K a b c) H1
theorem sep3 (I l1 l2 l3 : Nat) (h1 : l1 < I) (h2 : l2 < I) (h3 : l3 < I) : ZipSep3 (I + 5) (I + 3) (I + 4) I (I + 1) (I + 2) [I, l1] [I + 1, l2] [I + 2, l3] := by
  have nm : ∀ {x a b : Nat}, x ≠ a → x ≠ b → (x : Addr) ∉ ([a, b] : List Addr) := fun h1 h2 z => by
    rcases List.mem_cons.mp z with e | e
    · exact h1 e
    · exact h2 (List.mem_singleton.mp e)
  have ne : ∀ {x y : Nat}, x ≠ y → (x : Addr) ≠ (y : Addr) := fun h => h
  have me : ∀ {x y : Nat}, (x : Addr) ∈ ([x, y] : List Addr) := List.mem_cons_self
  exact ⟨ne (by omega), ne (by omega), ne (by omega), ne (by omega), me, nm (by omega) (by omega), nm (by omega) (by omega), ne (by omega), me, nm (by omega) (by omega), nm (by omega) (by omega), ne (by omega), me, nm (by omega) (by omega), nm (by omega) (by omega),
    nm (by omega) (by omega), nm (by omega) (by omega), nm (by omega) (by omega), nm (by omega) (by omega), nm (by omega) (by omega), nm (by omega) (by omega)⟩
theorem pi_zip3 {X : Cx} {e e2 e3 : Expr} {ta : TA} {p pos tpos : Pos} {elts : List Expr} {kk : Nat} (hg : Gl X "zip") (hm : X.mg "zip" = none) (ha : PA X [e, e2, e3] ta)
    (hs : starEach [e, e2, e3] X.env = (false, eval e X.env) :: starEach [e2, e3] X.env) (hpl : (backTo pos (starEach [e2, e3] X.env)).any (·.1) = false) :
    PI X (.Tuple elts kk tpos) (.Call (.Name "zip" p) [e, e2, e3] [] pos) (iZip3 X.K ta) := by
  refine ⟨fun pins s σ H R I h => ?_⟩
  refine Call_ (ld_blt I hg hm PyProof.Rows.boot_zip (PyProof.Rows.callWith_type1 (thn (ha.run pos pins s σ H _ I h) fun us s1 ⟨vs, H1, I1, r1, q1⟩ => ?_) hs hpl))
  obtain ⟨a, b, c, xs, ys, zs, ex, hqx, hqy, hqz, q⟩ := q1
  subst ex
  cases r1 with
  | cons r rr =>
    cases rr with
    | cons r' rr =>
      cases rr with
      | cons r'' rr =>
        cases rr
        cases r
        cases r'
        cases r''
        obtain ⟨its, rv, p1, _⟩ := I1.tuple hqx
        obtain ⟨its2, rv2, p2, _⟩ := I1.tuple hqy
        obtain ⟨its3, rv3, p3, _⟩ := I1.tuple hqz
        obtain ⟨o1, ho1, _⟩ := id p1
        obtain ⟨o2, ho2, _⟩ := id p2
        obtain ⟨o3, ho3, _⟩ := id p3
        have l1 := Heap.lt_size ho1
        have l2 := Heap.lt_size ho2
        have l3 := Heap.lt_size ho3
        refine zip_begins3 (begins_tuple a its.toArray) (begins_tuple b its2.toArray) (begins_tuple c its3.toArray) (show s1.heap.IsTuple a its.toArray from p1) (show s1.heap.IsTuple b its2.toArray from p2) (show s1.heap.IsTuple c its3.toArray from p3) fun h' hz hTI hTO g1 g2 g3 hsz hk => wpAny_pyIter_zip hz ?_
        have I2 : Inv X pins σ H1 { s1 with heap := h' } := I1.kept (t' := s1.toks) hk
        refine ⟨s1.heap.objs.size + 5, [s1.heap.objs.size + 5, s1.heap.objs.size + 3, s1.heap.objs.size + 4, s1.heap.objs.size, s1.heap.objs.size + 1, s1.heap.objs.size + 2], _, _, H1, rfl, I2, turn_zip3 (sep3 s1.heap.objs.size a b c l1 l2 l3) (Nat.ne_of_lt l1) (Nat.ne_of_lt (Nat.lt_succ_of_lt l2)) (Nat.ne_of_lt (Nat.lt_of_lt_of_le l3 (Nat.le_add_right _ _))), ⟨hz, hTI, ⟨_, _, _, hTO⟩, ⟨_, g1, rfl, rfl⟩, ⟨_, g2, rfl, rfl⟩, ⟨_, g3, rfl, rfl⟩⟩, fun d hd => ?_, q⟩
        have hle : s1.heap.objs.size ≤ d := by
          have e' : d = s1.heap.objs.size + 5 ∨ d = s1.heap.objs.size + 3 ∨ d = s1.heap.objs.size + 4 ∨ d = s1.heap.objs.size ∨ d = s1.heap.objs.size + 1 ∨ d = s1.heap.objs.size + 2 := by simpa using hd
          rcases e' with z | z | z | z | z | z
          · rw [z]; exact Nat.le_add_right _ _
          · rw [z]; exact Nat.le_add_right _ _
          · rw [z]; exact Nat.le_add_right _ _
          · rw [z]; exact Nat.le_refl _
          · rw [z]; exact Nat.le_add_right _ _
          · rw [z]; exact Nat.le_add_right _ _
        exact I1.fpOk hle (I1.hok.fresh hle)
end PZ

/-! PBa -/
/-! PB, part A: Python by value. Data, the small language, its evaluator. -/
namespace PB
open PySem L2

/-- data: what a Python value is worth -/
inductive D where
  | non | bl (b : Bool) | int (i : Int) | str (s : Str)
  | tup (l : List D) | lst (l : List D)
  | dk (l : List (Key × D)) | dt (l : List (List Key × D))
  | obj (c : Str) (l : List (Str × D)) | exc (c : Str) (l : List (Str × D)) | clo (c : Nat) (l : List D)

/-- what an expression hands on: a frozen thing, a fresh one (nobody else holds it), the thing of a slot -/
inductive Vd where
  | fz (d : D) | fr (d : D) | bw (i : Nat)
/-- a slot of the frame: empty, a frozen thing, a thing of its own, a thing of the caller's (by reference) -/
inductive Slot where
  | no | val (d : D) | own (d : D) | ref (d : D)
abbrev Env := List Slot
inductive Res (A : Type) where
  | ok (a : A) (env : Env) | exc (x : D) (env : Env) | err
def Res.bind {A B : Type} (r : Res A) (f : A → Env → Res B) : Res B := match r with
  | .ok a e => f a e
  | .exc x e => .exc x e
  | .err => .err
def Slot.data : Slot → Option D
  | .no => none
  | .val d => some d
  | .own d => some d
  | .ref d => some d
def slotD (env : Env) (i : Nat) : Option D := match env[i]? with
  | some s => s.data
  | none => none
def nowD (env : Env) : Vd → Option D
  | .fz d => some d
  | .fr d => some d
  | .bw i => slotD env i
/-- what is stored elsewhere is frozen -/
def takeD : Vd → Env → Option (D × Env)
  | .fz d, env => some (d, env)
  | .fr d, env => some (d, env)
  | .bw i, env => match env[i]? with
    | some (.own d) => some (d, env.set i (.val d))
    | some (.val d) => some (d, env)
    | _ => none
def takeDs : List Vd → Env → Option (List D × Env)
  | [], env => some ([], env)
  | v :: vs, env => match takeD v env with
    | some (d, env) => (match takeDs vs env with
      | some (ds, env) => some (d :: ds, env)
      | none => none)
    | none => none
def nowDs (env : Env) : List Vd → Option (List D)
  | [] => some []
  | v :: vs => match nowD env v, nowDs env vs with
    | some d, some ds => some (d :: ds)
    | _, _ => none

/-! ### data as the library's plain data -/
def kPy : Key → PyData
  | .inl i => .int i
  | .inr x => .str x
mutual
def toPy : D → PyData
  | .non => .none
  | .bl b => .bool b
  | .int i => .int i
  | .str s => .str s
  | .tup l => .tuple (toPys l)
  | .lst l => .list (toPys l)
  | .dk l => .dict (toPyk l)
  | .dt _ => .dict []
  | .obj _ _ => .dict []
  | .exc _ _ => .dict []
  | .clo _ _ => .dict []
def toPys : List D → List PyData
  | [] => []
  | d :: ds => toPy d :: toPys ds
def toPyk : List (Key × D) → List (PyData × PyData)
  | [] => []
  | (k, d) :: r => (kPy k, toPy d) :: toPyk r
end
mutual
def shows : D → Bool
  | .non => true
  | .bl _ => true
  | .int _ => true
  | .str _ => true
  | .tup l => showss l
  | .lst l => showss l
  | .dk l => l.isEmpty
  | .dt _ => false
  | .obj _ _ => false
  | .exc _ _ => false
  | .clo _ _ => false
def showss : List D → Bool
  | [] => true
  | d :: ds => shows d && showss ds
end
def eqG (a b : D) : Option Bool := if SeqAt.shaped (toPy a) && SeqAt.shaped (toPy b) then some (PyData.eqv (toPy a) (toPy b)) else none
def eqD (a b : D) : Option Bool := match a, b with
  | .str x, .str y => some (decide (x = y))
  | a, b => eqG a b
def reprD (d : D) : Option D :=
  if shows d && (toPy d).showable && decide ((toPy d).depth ≤ 64) && decide ((toPy d).shown.length ≤ sizeLine) then some (.str (toPy d).shown) else none

/-! ### operations on data -/
def keyD : D → Option Key
  | .int i => some (.inl i)
  | .str s => some (.inr s)
  | _ => none
def keysD : List D → Option (List Key)
  | [] => some []
  | d :: ds => match keyD d, keysD ds with
    | some k, some ks => some (k :: ks)
    | _, _ => none
def kget {K A : Type} [DecidableEq K] (l : List (K × A)) (k : K) : Option A := (l.find? fun p => decide (p.1 = k)).map (·.2)
def kput {K A : Type} [DecidableEq K] (l : List (K × A)) (k : K) (v : A) : List (K × A) :=
  if (l.any fun p => decide (p.1 = k)) = true then l.map (fun p => if p.1 = k then (p.1, v) else p) else l ++ [(k, v)]
/-- attributes -/
def fput (f : Str) (d : D) : List (Str × D) → List (Str × D)
  | [] => [(f, d)]
  | (g, x) :: r => if g = f then (g, d) :: r else (g, x) :: fput f d r
def cutD {A : Type} (xs : List A) (lo hi : Option Int) : List A := (xs.drop (HT.sIx xs.length 0 lo)).take (HT.sIx xs.length xs.length hi - HT.sIx xs.length 0 lo)
/-- a result: fresh or frozen -/
abbrev BR := Option (Bool × D)
def fzR (d : D) : BR := some (false, d)
def frR (d : D) : BR := some (true, d)
def mulOk (i j : Int) : Bool := (decide (-(2 ^ 64) < i) && decide (i < 2 ^ 64)) || (decide (-(2 ^ 64) < j) && decide (j < 2 ^ 64))
def binD : Operator → D → D → BR
  | .Add, .int i, .int j => fzR (.int (i + j))
  | .Add, .str x, .str y => if x.length + y.length ≤ sizeLine then fzR (.str (x ++ y)) else none
  | .Add, .tup x, .tup y => if x.length + y.length ≤ sizeLine then fzR (.tup (x ++ y)) else none
  | .Add, .lst x, .lst y => if x.length + y.length ≤ sizeLine then frR (.lst (x ++ y)) else none
  | .Sub, .int i, .int j => fzR (.int (i - j))
  | .Mult, .int i, .int j => if mulOk i j then fzR (.int (i * j)) else none
  | .Mult, .tup x, .int k => if decide (x ≠ []) && decide (2 ≤ k) && decide (k ≤ 1000) && decide (x.length ≤ 1000) then fzR (.tup (List.replicate k.toNat x).flatten) else none
  | .FloorDiv, .int i, .int j => if decide (0 < j) && decide (j < 1073741824) then fzR (.int (i / j)) else none
  | .Mod, .int i, .int j => if decide (0 < j) then fzR (.int (i % j)) else none
  | .Pow, .int i, .int j => if decide (0 ≤ j) && decide (j ≤ 1000000) && decide (i.natAbs < 2 ^ 64) then fzR (.int (i ^ j.toNat)) else none
  | _, _, _ => none
def inD (x : D) : D → Option Bool
  | .lst l => if SeqAt.shaped (toPy x) && SeqAt.shaped (.list (toPys l)) then some ((toPys l).any fun z => PyData.eqv z (toPy x)) else none
  | .tup l => if SeqAt.shaped (toPy x) && SeqAt.shaped (.tuple (toPys l)) then some ((toPys l).any fun z => PyData.eqv z (toPy x)) else none
  | .dk l => (match keyD x with
    | some k => some (kget l k).isSome
    | none => none)
  | .dt l => (match x with
    | .tup ds => (match keysD ds with
      | some k => some (kget l k).isSome
      | none => none)
    | _ => none)
  | .str y => (match x with
    | .str x => some (!(Builtin.Str.occurrences y x 0 y.length 1).isEmpty)
    | _ => none)
  | _ => none
def isNon : D → Bool
  | .non => true
  | _ => false
def cmpD : CmpOp → D → D → Option Bool
  | .Lt, .int i, .int j => some (decide (i < j))
  | .LtE, .int i, .int j => some (decide (i ≤ j))
  | .Gt, .int i, .int j => some (decide (j < i))
  | .GtE, .int i, .int j => some (decide (j ≤ i))
  | .Eq, x, y => eqD x y
  | .NotEq, x, y => (eqD x y).map not
  | .In, x, y => inD x y
  | .NotIn, x, y => (inD x y).map not
  | .Is, x, .non => some (isNon x)
  | .IsNot, x, .non => some (!isNon x)
  | _, _, _ => none
def idxD : D → D → Option D
  | .lst l, .int i => atI l i
  | .tup l, .int i => atI l i
  | .str s, .int i => if s.length ≤ sizeLine then (atI s.cps.toList i).map fun c => .str ⟨#[c]⟩ else none
  | .dk l, k => (match keyD k with
    | some k => kget l k
    | none => none)
  | .dt l, .tup ds => (match keysD ds with
    | some k => kget l k
    | none => none)
  | _, _ => none
def slcD : D → Option Int → Option Int → BR
  | .lst l, lo, hi => frR (.lst (cutD l lo hi))
  | .tup l, lo, hi => fzR (.tup (cutD l lo hi))
  | .str s, lo, hi => if s.length ≤ sizeLine then fzR (.str (cutS s lo hi)) else none
  | _, _, _ => none
/-- the classes that isinstance asks for -/
inductive Ty where
  | int | bool | tuple | str | list
  deriving DecidableEq
def isTy : Ty → D → Bool
  | .int, .int _ => true
  | .int, .bl _ => true
  | .bool, .bl _ => true
  | .tuple, .tup _ => true
  | .str, .str _ => true
  | .list, .lst _ => true
  | _, _ => false
def tyOk : D → Bool
  | .exc _ _ => false
  | .clo _ _ => false
  | .obj _ _ => false
  | .dt _ => false
  | _ => true
inductive Blt where
  | len | abs | max2 | min2 | maxL | minL | sum | all | any | int | repr | list | tuple | isi (t : Ty) | lrange2 | sortI | sortP | sortSet | lenSet | dict | sortT | sortSetT | trange2 | str
  deriving DecidableEq
def intsOf : List D → Option (List Int)
  | [] => some []
  | .int i :: r => (intsOf r).map (i :: ·)
  | _ :: _ => none
def boolsOf : List D → Option (List Bool)
  | [] => some []
  | .bl b :: r => (boolsOf r).map (b :: ·)
  | _ :: _ => none
def pairsOf : List D → Option (List (Int × Int))
  | [] => some []
  | .tup [.int i, .int j] :: r => (pairsOf r).map ((i, j) :: ·)
  | _ :: _ => none
def maxI : Int → List Int → Int
  | m, [] => m
  | m, x :: r => maxI (if m < x then x else m) r
def minI : Int → List Int → Int
  | m, [] => m
  | m, x :: r => minI (if x < m then x else m) r
def rangeD (lo : Int) : Nat → List D
  | 0 => []
  | n + 1 => .int lo :: rangeD (lo + 1) n
def insI (x : Int) : List Int → List Int
  | [] => [x]
  | y :: r => if x ≤ y then x :: y :: r else y :: insI x r
def sortL : List Int → List Int
  | [] => []
  | x :: r => insI x (sortL r)
def leP (a b : Int × Int) : Bool := decide (a.1 < b.1) || (decide (a.1 = b.1) && decide (a.2 ≤ b.2))
def insP (x : Int × Int) : List (Int × Int) → List (Int × Int)
  | [] => [x]
  | y :: r => if leP x y then x :: y :: r else y :: insP x r
def sortPL : List (Int × Int) → List (Int × Int)
  | [] => []
  | x :: r => insP x (sortPL r)
def insU (x : Int) : List Int → List Int
  | [] => [x]
  | y :: r => if x < y then x :: y :: r else if x = y then y :: r else y :: insU x r
/-- the members of a list, ascending, each once -/
def uniqL : List Int → List Int
  | [] => []
  | x :: r => insU x (uniqL r)
def insT (x : List Int) : List (List Int) → List (List Int)
  | [] => [x]
  | y :: r => if PZ.lexL x y = true then x :: y :: r else if x = y then y :: r else y :: insT x r
/-- tuples, ascending, each once -/
def uniqT : List (List Int) → List (List Int)
  | [] => []
  | x :: r => insT x (uniqT r)
def tupI (ns : List Int) : D := .tup (ns.map .int)
def keyInts : List Key → Option (List Int)
  | [] => some []
  | .inl i :: r => (keyInts r).map (i :: ·)
  | .inr _ :: _ => none
def keysInts : List (List Key × D) → Option (List (List Int))
  | [] => some []
  | (k, _) :: r => match keyInts k, keysInts r with
    | some x, some xs => some (x :: xs)
    | _, _ => none
def tupsOf : List D → Option (List (List Int))
  | [] => some []
  | .tup l :: r => (match intsOf l, tupsOf r with
    | some x, some xs => some (x :: xs)
    | _, _ => none)
  | _ :: _ => none
/-- all of one length, one at least -/
def evenT : List (List Int) → Bool
  | [] => true
  | x :: r => decide (1 ≤ x.length) && r.all fun y => decide (y.length = x.length)
def hashT (ns : List Int) : Int := reduceHash (Builtin.Tuple.tupleHashOf (ns.map hashInt))
/-- the pairs (tuple, thing) of a list -/
def pairsT : List D → Option (List (List Key × D))
  | [] => some []
  | .tup [.tup ks, d] :: r => (match keysD ks, pairsT r with
    | some k, some xs => some ((k, d) :: xs)
    | _, _ => none)
  | _ :: _ => none
def rngOk (i : Int) : Bool := decide (-(2 ^ 62) ≤ i) && decide (i < 2 ^ 62)
def bltD : Blt → List D → BR
  | .len, [.lst l] => fzR (.int l.length)
  | .len, [.tup l] => fzR (.int l.length)
  | .len, [.str s] => if s.length ≤ sizeLine then fzR (.int s.length) else none
  | .len, [.dk l] => fzR (.int l.length)
  | .abs, [.int i] => fzR (.int (if i < 0 then -i else i))
  | .max2, [.int i, .int j] => fzR (.int (if j > i then j else i))
  | .min2, [.int i, .int j] => fzR (.int (if j < i then j else i))
  | .maxL, [.lst l] => (match intsOf l with
    | some (x :: r) => fzR (.int (maxI x r))
    | _ => none)
  | .minL, [.lst l] => (match intsOf l with
    | some (x :: r) => fzR (.int (minI x r))
    | _ => none)
  | .sum, [.lst l] => (match intsOf l with
    | some r => fzR (.int r.sum)
    | _ => none)
  | .all, [.lst l] => (match boolsOf l with
    | some r => fzR (.bl (r.all id))
    | _ => none)
  | .any, [.lst l] => (match boolsOf l with
    | some r => fzR (.bl (r.any id))
    | _ => none)
  | .int, [.int i] => fzR (.int i)
  | .int, [.bl b] => fzR (.int (if b then 1 else 0))
  | .int, [.str a] => (match PySem.intText? a with
    | some n => if a.length ≤ 640 then fzR (.int n) else none
    | none => none)
  | .str, [.int i] => if i.natAbs.log2 < 1920 then fzR (.str (toString i)) else none
  | .str, [.str a] => fzR (.str a)
  | .repr, [d] => (match reprD d with
    | some s => fzR s
    | none => none)
  | .list, [.lst l] => frR (.lst l)
  | .list, [.tup l] => frR (.lst l)
  | .tuple, [.lst l] => fzR (.tup l)
  | .tuple, [.tup l] => fzR (.tup l)
  | .isi t, [d] => if tyOk d then fzR (.bl (isTy t d)) else none
  | .lrange2, [.int i, .int j] => if rngOk i && rngOk j && decide (j - i ≤ 1000000) then frR (.lst (rangeD i (j - i).toNat)) else none
  | .trange2, [.int i, .int j] => if rngOk i && rngOk j && decide (j - i ≤ 1000000) then fzR (.tup (rangeD i (j - i).toNat)) else none
  | .sortI, [.lst l] => (match intsOf l with
    | some r => frR (.lst ((sortL r).map .int))
    | _ => none)
  | .sortP, [.lst l] => (match pairsOf l with
    | some r => frR (.lst ((sortPL r).map fun p => .tup [.int p.1, .int p.2]))
    | _ => none)
  | .sortP, [.tup l] => (match pairsOf l with
    | some r => frR (.lst ((sortPL r).map fun p => .tup [.int p.1, .int p.2]))
    | _ => none)
  | .sortSet, [.lst l] => (match intsOf l with
    | some r => if r.length ≤ 4000 then frR (.lst ((uniqL r).map .int)) else none
    | _ => none)
  | .lenSet, [.lst l] => (match intsOf l with
    | some r => if r.length ≤ 4000 then fzR (.int (uniqL r).length) else none
    | _ => none)
  | .dict, [.dt l] => (match keysInts l with
    | some r => if decide (r.map hashT).Nodup then frR (.dt l) else none
    | none => none)
  | .dict, [.lst l] => (match pairsT l with
    | some r => frR (.dt (r.foldl (fun acc p => kput acc p.1 p.2) []))
    | none => none)
  | .sortT, [.dt l] => (match keysInts l with
    | some r => if evenT r then frR (.lst ((uniqT r).map tupI)) else none
    | none => none)
  | .sortSetT, [.lst l] => (match tupsOf l with
    | some r => if evenT r && decide (r.length < 64) then frR (.lst ((uniqT r).map tupI)) else none
    | none => none)
  | _, _ => none
def vdR : Bool × D → Vd
  | (true, d) => .fr d
  | (false, d) => .fz d

/-! ### the small language -/
mutual
inductive E where
  | var (i : Nat) | lit (d : D)
  | bin (op : Operator) (a b : E) | neg (a : E) | not (a : E)
  | cmp (op : CmpOp) (a b : E) | chn (op op' : CmpOp) (a b c : E)
  | and (a b : E) | or (a b : E) | ite (c a b : E)
  | tup (es : List E) | lst (es : List E) | dct (ks : List Str) (es : List E)
  | idx (a i : E) | slc (a : E) (lo hi : Option E)
  | blt (b : Blt) (es : List E) | call (f : Nat) (es : List E) | callK (f : Nat) (es : List E) (pm : List Nat)
  | comp (elt : E) (t : Tg) (it : It) (c : Option E)
  | att (a : E) (f : Str) | meth (m : Str) (fs : List Nat) (a : E) (es : List E) | new (f : Nat) (es : List E)
  | dnw | dct1 (k v : E) | dget (a k d : E) | neE (a : E)
  | comp2 (elt : E) (t : Tg) (it : It) (t2 : Tg) (it2 : It) | dcm (k v : E) (t : Tg) (it : It) | rev (a : E) | lrep (es : List E) (k : E)
  | newX (c f : Str) (e : E) | isx (e : E) (t : Str) (yes no : List Str) | said (s j : Nat) (is : List Nat)
  | join (a e : E) | split (a e : E) | kin (neg : Bool) (x : E) (g : Str) (l : List (Key × D)) | kidx (g : Str) (l : List (Key × D)) (x : E)
inductive Tg where
  | nm (i : Nat) | tp (ts : List Tg) | sub (i : Nat) (k : E) | att (i : Nat) (f : Str)
inductive It where
  | seq (e : E) | rng1 (hi : E) | rng2 (lo hi : E) | enm (e : E) | zip (a b : E) | zip3 (a b c : E) | chars (e : E)
end
inductive S where
  | asg (t : Tg) (e : E) | par (is : List Nat) (es : List E)
  | app (i : Nat) (e : E) | ext (i : Nat) (e : E) | expr (e : E) | ret (e : Option E)
  | ite (c : E) (a b : List S) | for (t : Tg) (it : It) (body : List S) | whl (c : E) (body : List S)
  | pass | brk | cont | never | aug (i : Nat) (op : Operator) (e : E) | forK (t : Tg) (i : Nat) (f : Option Str) (body : List S) | augA (i : Nat) (f : Str) (op : Operator) (e : E)
  | fillA (i : Nat) (f : Str) (t : Tg) (g : Str) (x : Nat) (e k v : E) | raise (c f : Str) (e : E) | saidB (cs : List Str) (h : Nat)

/-- what a def hands back: a frozen thing, a fresh one, its parameter itself -/
inductive Rt where
  | fz (d : D) | fr (d : D) | prm (j : Nat)
/-- a call's end; outs: the things of the parameters by reference, in turn -/
inductive CRes where
  | ret (r : Rt) (outs : List D) | exc (x : D) (outs : List D) | err
inductive Flow where
  | next | brk | cont | ret (v : Vd)
abbrev Callee := Nat → List D → CRes
structure Fn where
  name : Str
  ps : List Str
  ns : List Str
  modes : List Bool
  body : List S
  cls : Option Str := none
  flds : List Str := []
  /-- 0: a def; 1: the def that calls what it is given; 2: a lambda's body, over its maker's slots -/
  kind : Nat := 0

/-- a class of errors: its name, the base named in its __init__, its attribute, the names there, the classes that its errors are of, its built-in base (0: ValueError, 1: OverflowError, 2: RuntimeError) -/
structure Xc where
  c : Str
  b : Str
  f : Str
  slf : Str
  prm : Str
  sup : List Str
  k : Nat
structure Xs where
  xs : List Xc
  ts : List Str
/-! ### slots -/
/-- the thing of a slot that is its own is changed -/
def putOwn (env : Env) (i : Nat) (d : D) : Option Env := match env[i]? with
  | some (.own _) => some (env.set i (.own d))
  | some (.ref _) => some (env.set i (.ref d))
  | _ => none
def ownD (env : Env) (i : Nat) : Option D := match env[i]? with
  | some (.own d) => some d
  | some (.ref d) => some d
  | _ => none
/-- a name is bound -/
def setV (env : Env) (i : Nat) (s : Slot) : Option Env := match env[i]? with
  | some (.ref _) => none
  | some _ => some (env.set i s)
  | none => none
def subPut (c : D) (k v : D) : Option D := match c with
  | .dk l => (match keyD k with
    | some k => if l.length < sizeLine then some (.dk (kput l k v)) else none
    | none => none)
  | .dt l => (match k with
    | .tup ds => (match keysD ds with
      | some k => if l.length < sizeLine then some (.dt (kput l k v)) else none
      | none => none)
    | _ => none)
  | .lst l => (match k with
    | .int i => (match ixN l.length i with
      | some j => some (.lst (l.set j v))
      | none => none)
    | _ => none)
  | _ => none
/-! the slots that a target binds -/
mutual
def Tg.slots : Tg → List Nat
  | .nm i => [i]
  | .tp ts => Tg.slotss ts
  | .sub _ _ => []
  | .att _ _ => []
def Tg.slotss : List Tg → List Nat
  | [] => []
  | t :: ts => t.slots ++ Tg.slotss ts
end
def clear (env : Env) : List Nat → Env
  | [] => env
  | i :: is => (clear env is).set i .no
def restore (old env : Env) : List Nat → Env
  | [] => env
  | i :: is => match old[i]? with
    | some s => (restore old env is).set i s
    | none => restore old env is

/-! ### arguments -/
/-- the values that are handed over; the slots by reference, in turn -/
def argsD : List Bool → List Vd → Env → Option (List D × List (Option Nat) × Env)
  | [], [], env => some ([], [], env)
  | false :: ms, v :: vs, env => match takeD v env with
    | some (d, env) => (match argsD ms vs env with
      | some (ds, is, env) => some (d :: ds, is, env)
      | none => none)
    | none => none
  | true :: ms, .bw i :: vs, env => (match argsD ms vs env with
    | some (ds, is, env) => (match ownD env i with
      | some d => if is.contains (some i) then none else some (d :: ds, some i :: is, env)
      | none => none)
    | none => none)
  | true :: ms, .fr d :: vs, env => (match argsD ms vs env with
    | some (ds, is, env) => some (d :: ds, none :: is, env)
    | none => none)
  | _, _, _ => none
/-- what the references hold behind the call -/
def outsD : List (Option Nat) → List D → Env → Option Env
  | [], [], env => some env
  | some i :: is, d :: ds, env => (match putOwn env i d with
    | some env => outsD is ds env
    | none => none)
  | none :: is, _ :: ds, env => outsD is ds env
  | _, _, _ => none
/-- the result in the caller's frame -/
def rtV (ms : List Bool) (vs : List Vd) : Rt → Option Vd
  | .fz d => some (.fz d)
  | .fr d => some (.fr d)
  | .prm j => match ms[j]?, vs[j]? with
    | some true, some (.bw i) => some (.bw i)
    | _, _ => none
def callV (C : Callee) (fns : List Fn) (f : Nat) (vs : List Vd) (env : Env) : Res Vd := match fns[f]? with
  | none => .err
  | some fn => match argsD fn.modes vs env with
    | none => .err
    | some (ds, is, env) => match C f ds with
      | .err => .err
      | .ret r outs => (match outsD is outs env with
        | none => .err
        | some env => (match rtV fn.modes vs r with
          | some v => .ok v env
          | none => .err))
      | .exc x outs => (match outsD is outs env with
        | none => .err
        | some env => .exc x env)

/-- a method's def among some, by the object's class -/
def pick (fns : List Fn) (m : Str) (c : Str) : List Nat → Option Nat
  | [] => none
  | f :: r => match fns[f]? with
    | some fn => if fn.cls = some c ∧ fn.name = m then some f else pick fns m c r
    | none => pick fns m c r
/-- the class's def __init__ names the attribute -/
def fldOk (fns : List Fn) (c f : Str) : Bool := fns.any fun fn => decide (fn.cls = some c) && decide (fn.name = "__init__") && fn.flds.contains f
def methIx (fns : List Fn) (m : Str) (fs : List Nat) (v : Vd) (env : Env) : Option Nat := match nowD env v with
  | some (.obj c l) => (match l.lookup m with
    | none => pick fns m c fs
    | some _ => none)
  | _ => none
/-- a new instance -/
def newV (C : Callee) (fns : List Fn) (f : Nat) (vs : List Vd) (env : Env) : Res Vd := match fns[f]? with
  | none => .err
  | some fn => match fn.cls with
    | none => .err
    | some c => if fn.name = "__init__" ∧ fn.modes.head? = some true then (match argsD (fn.modes.drop 1) vs env with
      | none => .err
      | some (ds, is, env) => match C f (.obj c [] :: ds) with
        | .ret (.fz .non) (o :: outs) => (match outsD is outs env with
          | none => .err
          | some env => .ok (.fr o) env)
        | _ => .err) else .err
def attV (v : Vd) (f : Str) (env : Env) : Res Vd := match nowD env v with
  | some (.obj _ l) => (match l.lookup f with
    | some d => .ok (.fz d) env
    | none => .err)
  | some (.exc _ l) => (match l.lookup f with
    | some d => .ok (.fz d) env
    | none => .err)
  | _ => .err
def dct1V (k v : Vd) (env : Env) : Res Vd := match nowD env k with
  | some (.tup ds) => (match keysD ds with
    | some kk => (match takeD v env with
      | some (d, env) => .ok (.fr (.dt [(kk, d)])) env
      | none => .err)
    | none => .err)
  | _ => .err
def isDt : Option D → Bool
  | some (.dt _) => true
  | _ => false
def dgetV (a k d : Vd) (env : Env) : Res Vd := match nowD env a, nowD env k, d with
  | some (.dt l), some (.tup ds), .fz dd => (match keysD ds with
    | some kk => .ok (.fz ((kget l kk).getD dd)) env
    | none => .err)
  | _, _, _ => .err
def neEV (a : Vd) (env : Env) : Res Vd := match nowD env a with
  | some (.dt l) => .ok (.fz (.bl (!l.isEmpty))) env
  | _ => .err
/-- the dict that a loop walks: a slot's thing, an attribute of one -/
def pthD (env : Env) (i : Nat) (f : Option Str) : Option D := match env[i]?, f with
  | some (.val d), none => some d
  | some s, some f => (match s.data with
    | some (.obj _ l) => l.lookup f
    | _ => none)
  | _, _ => none
/-- a slot's own dict is frozen ahead of a loop over it -/
def frzS (env : Env) (i : Nat) (f : Option Str) : Env := match env[i]?, f with
  | some (.own d), none => env.set i (.val d)
  | _, _ => env
def keyD1 : Key → D
  | .inl i => .int i
  | .inr s => .str s
def noExc {A : Type} : Res A → Res A
  | .ok a e => .ok a e
  | _ => .err
/-- the results in the order of the parameters -/
def permL {A : Type} (xs : List A) : List Nat → Option (List A)
  | [] => some []
  | i :: is => match xs[i]?, permL xs is with
    | some x, some r => some (x :: r)
    | _, _ => none
def noFr : List Vd → Bool
  | [] => true
  | .fr _ :: _ => false
  | _ :: vs => noFr vs
def callKV (C : Callee) (fns : List Fn) (f : Nat) (pm : List Nat) (vs : List Vd) (env : Env) : Res Vd := if noFr vs then (match permL vs pm with
  | some ws => callV C fns f ws env
  | none => .err) else .err

/-- the items of a list that can be changed, other than slot i -/
def itemsV (i : Nat) (v : Vd) (env : Env) : Option (List D) := match v with
  | .fr (.lst m) => some m
  | .bw j => if j = i then none else (match ownD env j with
    | some (.lst m) => some m
    | _ => none)
  | _ => none

/-! ### the evaluator -/
def optR {A : Type} (o : Option A) (env : Env) : Res A := match o with
  | some a => .ok a env
  | none => .err
def optE {A : Type} (o : Option (A × Env)) : Res A := match o with
  | some (a, env) => .ok a env
  | none => .err
def nowR (v : Vd) (env : Env) : Res D := optR (nowD env v) env
def takeR (v : Vd) (env : Env) : Res D := optE (takeD v env)
def boolV (v : Vd) (env : Env) : Res Bool := match v with
  | .fz (.bl b) => .ok b env
  | _ => .err
def binV (op : Operator) (x y : Vd) (env : Env) : Res Vd := match nowD env x, nowD env y with
  | some a, some b => (match binD op a b with
    | some r => .ok (vdR r) env
    | none => .err)
  | _, _ => .err
def negV (x : Vd) (env : Env) : Res Vd := match x with
  | .fz (.int i) => .ok (.fz (.int (-i))) env
  | _ => .err
def cmpV (op : CmpOp) (x y : Vd) (env : Env) : Res Bool := match nowD env x, nowD env y with
  | some a, some b => (match cmpD op a b with
    | some r => .ok r env
    | none => .err)
  | _, _ => .err
def idxV (x y : Vd) (env : Env) : Res Vd := match nowD env x, nowD env y with
  | some a, some b => (match idxD a b with
    | some r => .ok (.fz r) env
    | none => .err)
  | _, _ => .err
def slcV (x : Vd) (lo hi : Option Int) (env : Env) : Res Vd := match nowD env x with
  | some a => (match slcD a lo hi with
    | some r => .ok (vdR r) env
    | none => .err)
  | none => .err
def bltV (b : Blt) (xs : List Vd) (env : Env) : Res Vd := match nowDs env xs with
  | some ds => (match bltD b ds with
    | some r => .ok (vdR r) env
    | none => .err)
  | none => .err
def tupV (xs : List Vd) (env : Env) : Res Vd := match takeDs xs env with
  | some (ds, env) => if ds.length ≤ sizeLine then .ok (.fz (.tup ds)) env else .err
  | none => .err
def lstV (xs : List Vd) (env : Env) : Res Vd := match takeDs xs env with
  | some (ds, env) => if ds.length ≤ sizeLine then .ok (.fr (.lst ds)) env else .err
  | none => .err
def dctV (ks : List Str) (xs : List Vd) (env : Env) : Res Vd := match takeDs xs env with
  | some (ds, env) => if ks.length = ds.length ∧ ds.length ≤ 15 then .ok (.fr (.dk ((ks.zip ds).foldl (fun acc p => kput acc (.inr p.1) p.2) []))) env else .err
  | none => .err
def enumD (k : Int) : List D → List D
  | [] => []
  | d :: ds => .tup [.int k, d] :: enumD (k + 1) ds
def zipD : List D → List D → List D
  | a :: as, b :: bs => .tup [a, b] :: zipD as bs
  | _, _ => []
def zip3D : List D → List D → List D → List D
  | a :: as, b :: bs, c :: cs => .tup [a, b, c] :: zip3D as bs cs
  | _, _, _ => []
def zip3V (xs : List Vd) (env : Env) : Res (List D) := match takeDs xs env with
  | some ([.tup l, .tup m, .tup n], env) => .ok (zip3D l m n) env
  | _ => .err
def seqD : D → Option (List D)
  | .lst l => some l
  | .tup l => some l
  | _ => none
def seqV (v : Vd) (env : Env) : Res (List D) := match takeD v env with
  | some (d, env) => optR (seqD d) env
  | none => .err
def rngV (lo hi : Int) (env : Env) : Res (List D) := if rngOk lo && rngOk hi && decide (hi - lo ≤ 1000000) then .ok (rangeD lo (hi - lo).toNat) env else .err
def intV (v : Vd) (env : Env) : Res Int := match v with
  | .fz (.int i) => .ok i env
  | _ => .err
def strsOf : List D → Option (List Str)
  | [] => some []
  | .str x :: r => (strsOf r).map (x :: ·)
  | _ :: _ => none
def isStrV : Vd → Bool
  | .fz (.str _) => true
  | _ => false
def joinS (a : Str) (l : List D) (env : Env) : Res Vd := match strsOf l with
  | some ys => if (ys.map (·.length)).sum + ys.length * a.length ≤ 16777216 then .ok (.fz (.str (Txt.join a ys))) env else .err
  | none => .err
def joinV (x y : Vd) (env : Env) : Res Vd := match x, nowD env y with
  | .fz (.str a), some (.lst l) => joinS a l env
  | .fz (.str a), some (.tup l) => joinS a l env
  | _, _ => .err
def splitV (x y : Vd) (env : Env) : Res Vd := match x, y with
  | .fz (.str a), .fz (.str b) => if (b.length == 0) = false ∧ a.length + 2 ≤ sizeLine then .ok (.fr (.lst ((Txt.split a b).map .str))) env else .err
  | _, _ => .err
def kinV (neg : Bool) (l : List (Key × D)) (x : Vd) (env : Env) : Res Vd := match x with
  | .fz (.str z) => .ok (.fz (.bl (if neg then !(kget l (.inr z)).isSome else (kget l (.inr z)).isSome))) env
  | _ => .err
def kidxV (l : List (Key × D)) (x : Vd) (env : Env) : Res Vd := match x with
  | .fz (.str z) => (match kget l (.inr z) with
    | some (.int i) => .ok (.fz (.int i)) env
    | _ => .err)
  | _ => .err
def charsV (x : Vd) (env : Env) : Res (List D) := match x with
  | .fz (.str s) => .ok (s.cps.toList.map fun c => .str ⟨#[c]⟩) env
  | _ => .err
def compL (asg : D → Env → Res Unit) (cond : Env → Res Bool) (f : Env → Res Vd) : List D → List D → Env → Res (List D)
  | [], acc, env => .ok acc env
  | d :: ds, acc, env => match asg d env with
    | .ok _ env => (match cond env with
      | .ok true env => (match f env with
        | .ok v env => (match takeD v env with
          | some (y, env) => if acc.length < sizeLine then compL asg cond f ds (acc ++ [y]) env else .err
          | none => .err)
        | _ => .err)
      | .ok false env => compL asg cond f ds acc env
      | _ => .err)
    | _ => .err
/-- two generators -/
def compL2 (asg : D → Env → Res Unit) (inner : Env → Res (List D)) (asg2 : D → Env → Res Unit) (f : Env → Res Vd) : List D → List D → Env → Res (List D)
  | [], acc, env => .ok acc env
  | d :: ds, acc, env => match asg d env with
    | .ok _ env => (match inner env with
      | .ok es env => (match compL asg2 (fun env => .ok true env) f es acc env with
        | .ok acc env => compL2 asg inner asg2 f ds acc env
        | _ => .err)
      | _ => .err)
    | _ => .err
/-- {k: v for ..}, keys tuples -/
def dcmL (asg : D → Env → Res Unit) (k v : Env → Res Vd) : List D → List (List Key × D) → Env → Res (List (List Key × D))
  | [], acc, env => .ok acc env
  | d :: ds, acc, env => match asg d env with
    | .ok _ env => (match k env with
      | .ok (.fz (.tup ks)) env => (match keysD ks with
        | some kk => (match v env with
          | .ok r env => (match takeD r env with
            | some (y, env) => if acc.length < sizeLine then dcmL asg k v ds (kput acc kk y) env else .err
            | none => .err)
          | _ => .err)
        | none => .err)
      | _ => .err)
    | _ => .err
/-- o.f = {}; for t in o.g: x = e; if x is not None: o.f[k] = v -/
def fillL (asg : D → Env → Res Unit) (e k v : Env → Res Vd) (x : Nat) : List D → List (List Key × D) → Env → Res (List (List Key × D))
  | [], acc, env => .ok acc env
  | d :: ds, acc, env => match asg d env with
    | .ok _ env => (match e env with
      | .ok (.fz y) env => (match setV env x (.val y) with
        | some env => if isNon y = true then fillL asg e k v x ds acc env else (match v env with
          | .ok (.fz dv) env => (match k env with
            | .ok (.fz (.tup ks)) env => (match keysD ks with
              | some kk => if acc.length < sizeLine then fillL asg e k v x ds (kput acc kk dv) env else .err
              | none => .err)
            | _ => .err)
          | _ => .err)
        | none => .err)
      | _ => .err)
    | _ => .err
/-- [..] * k -/
def lrepV (r y : Vd) (env : Env) : Res Vd := match r, y with
  | .fr (.lst l), .fz (.int k) => if decide (0 ≤ k) && decide (k ≤ 1000) && decide (l.length ≤ 1000) then .ok (.fr (.lst (List.replicate k.toNat l).flatten)) env else .err
  | _, _ => .err
def isFrL : Vd → Bool
  | .fr (.lst _) => true
  | _ => false
def revD : D → Option (Bool × D)
  | .lst l => some (true, .lst l.reverse)
  | .tup l => some (false, .tup l.reverse)
  | _ => none
def revV (x : Vd) (env : Env) : Res Vd := match nowD env x with
  | some a => (match revD a with
    | some r => .ok (vdR r) env
    | none => .err)
  | none => .err
/-- an error as a value -/
def newXV (c f : Str) (v : Vd) (env : Env) : Res Vd := match takeD v env with
  | some (d, env) => .ok (.fz (.exc c [(f, d)])) env
  | none => .err
def isxV (v : Vd) (yes no : List Str) (env : Env) : Res Vd := match nowD env v with
  | some (.exc c _) => if yes.contains c = true then .ok (.fz (.bl true)) env else if no.contains c = true then .ok (.fz (.bl false)) env else .err
  | _ => .err
/-- what a lambda's body finds in its maker's slots -/
def capOf (env : Env) (is : List Nat) (i : Nat) : D := if is.contains i = true then (match env[i]? with
  | some (.val d) => d
  | _ => .non) else .non
def saidV (C : Callee) (fns : List Fn) (s j : Nat) (is : List Nat) (env : Env) : Res Vd := match fns[j]?, takeDs (is.map Vd.bw) env with
  | some fn, some (_, env) => callV C fns s [.fz (.clo j ((List.range fn.ns.length).map (capOf env is)))] env
  | _, _ => .err
section
variable (C : Callee) (fns : List Fn)
mutual
def evE : E → Env → Res Vd
  | .var i, env => (match env[i]? with
    | some (.val d) => .ok (.fz d) env
    | some (.own _) => .ok (.bw i) env
    | some (.ref _) => .ok (.bw i) env
    | _ => .err)
  | .lit d, env => .ok (.fz d) env
  | .bin op a b, env => (evE a env).bind fun x env => (evE b env).bind fun y env => binV op x y env
  | .neg a, env => (evE a env).bind fun x env => negV x env
  | .not a, env => (evE a env).bind fun x env => (boolV x env).bind fun b env => .ok (.fz (.bl (!b))) env
  | .cmp op a b, env => (evE a env).bind fun x env => (evE b env).bind fun y env => (cmpV op x y env).bind fun b env => .ok (.fz (.bl b)) env
  | .chn op op' a b c, env => (evE a env).bind fun x env => (evE b env).bind fun y env => (cmpV op x y env).bind fun k env =>
    if k = true then (evE c env).bind fun z env => (cmpV op' y z env).bind fun b env => .ok (.fz (.bl b)) env else .ok (.fz (.bl false)) env
  | .and a b, env => (evE a env).bind fun x env => (boolV x env).bind fun k env => if k = true then evE b env else .ok (.fz (.bl false)) env
  | .or a b, env => (evE a env).bind fun x env => (boolV x env).bind fun k env => if k = true then .ok (.fz (.bl true)) env else evE b env
  | .ite c a b, env => (evE c env).bind fun x env => (boolV x env).bind fun k env => if k = true then evE a env else evE b env
  | .tup es, env => (evEs es env).bind fun xs env => tupV xs env
  | .lst es, env => (evEs es env).bind fun xs env => lstV xs env
  | .dct ks es, env => (evEs es env).bind fun xs env => dctV ks xs env
  | .idx a i, env => (evE a env).bind fun x env => (evE i env).bind fun y env => idxV x y env
  | .slc a lo hi, env => (evE a env).bind fun x env => (evP lo env).bind fun l env => (evP hi env).bind fun h env => slcV x l h env
  | .blt b es, env => (evEs es env).bind fun xs env => bltV b xs env
  | .call f es, env => (evEs es env).bind fun xs env => callV C fns f xs env
  | .callK f es pm, env => (evEs es env).bind fun xs env => callKV C fns f pm xs env
  | .att a f, env => (evE a env).bind fun x env => attV x f env
  | .meth m fs a es, env => (evE a env).bind fun x env => (match methIx fns m fs x env with
    | some f => (evEs es env).bind fun xs env => callV C fns f (x :: xs) env
    | none => .err)
  | .new f es, env => (evEs es env).bind fun xs env => newV C fns f xs env
  | .dnw, env => .ok (.fr (.dt [])) env
  | .dct1 k v, env => (evE k env).bind fun x env => (evE v env).bind fun y env => dct1V x y env
  | .dget a k d, env => (evE a env).bind fun x env => if isDt (nowD env x) = true then (evE k env).bind fun y env => (evE d env).bind fun z env => dgetV x y z env else .err
  | .neE a, env => (evE a env).bind fun x env => neEV x env
  | .join a e, env => (evE a env).bind fun x env => if isStrV x = true then (evE e env).bind fun y env => joinV x y env else .err
  | .split a e, env => (evE a env).bind fun x env => if isStrV x = true then (evE e env).bind fun y env => splitV x y env else .err
  | .newX c f a, env => (evE a env).bind fun x env => newXV c f x env
  | .isx a _ yes no, env => (evE a env).bind fun x env => isxV x yes no env
  | .said s j is, env => saidV C fns s j is env
  | .kin neg x _ l, env => (evE x env).bind fun v env => kinV neg l v env
  | .kidx _ l x, env => (evE x env).bind fun v env => kidxV l v env
  | .comp2 elt t it t2 it2, env => (evIt it env).bind fun ds env => match compL2 (fun d e => asT t d (clear e (t.slots ++ t2.slots))) (evIt it2) (fun d e => asT t2 d (clear e t2.slots)) (evE elt) ds [] env with
    | .ok acc env' => .ok (.fr (.lst acc)) (restore env env' (t.slots ++ t2.slots))
    | _ => .err
  | .dcm k v t it, env => (evIt it env).bind fun ds env => match dcmL (fun d e => asT t d (clear e t.slots)) (evE k) (evE v) ds [] env with
    | .ok acc env' => .ok (.fr (.dt acc)) (restore env env' t.slots)
    | _ => .err
  | .rev a, env => (evE a env).bind fun x env => revV x env
  | .lrep es k, env => (evEs es env).bind fun xs env => (lstV xs env).bind fun r env => if isFrL r = true then (evE k env).bind fun y env => lrepV r y env else .err
  | .comp elt t it c, env => (evIt it env).bind fun ds env => match compL (fun d e => asT t d (clear e t.slots)) (evC c) (evE elt) ds [] env with
    | .ok acc env' => .ok (.fr (.lst acc)) (restore env env' t.slots)
    | _ => .err
def evC : Option E → Env → Res Bool
  | none, env => .ok true env
  | some e, env => (evE e env).bind fun x env => boolV x env
def evP : Option E → Env → Res (Option Int)
  | none, env => .ok none env
  | some e, env => (evE e env).bind fun x env => (intV x env).bind fun i env => .ok (some i) env
def evEs : List E → Env → Res (List Vd)
  | [], env => .ok [] env
  | e :: es, env => (evE e env).bind fun x env => (evEs es env).bind fun xs env => .ok (x :: xs) env
def asT : Tg → D → Env → Res Unit
  | .nm i, d, env => (match setV env i (.val d) with
    | some env => .ok () env
    | none => .err)
  | .tp ts, d, env => match d with
    | .tup ds => if ds.length = ts.length then asTs ts ds env else .err
    | _ => .err
  | .sub i k, d, env => match ownD env i with
    | none => .err
    | some _ => (evE k env).bind fun x env => match nowD env x, ownD env i with
      | some kd, some c => (match subPut c kd d with
        | some c => (match putOwn env i c with
          | some env => .ok () env
          | none => .err)
        | none => .err)
      | _, _ => .err
  | .att i f, d, env => match ownD env i with
    | some (.obj c l) => if fldOk fns c f = true ∧ l.length < 1000 then (match putOwn env i (.obj c (fput f d l)) with
      | some env => .ok () env
      | none => .err) else .err
    | _ => .err
def asTs : List Tg → List D → Env → Res Unit
  | [], [], env => .ok () env
  | t :: ts, d :: ds, env => (asT t d env).bind fun _ env => asTs ts ds env
  | _, _, _ => .err
def evIt : It → Env → Res (List D)
  | .seq e, env => (evE e env).bind fun x env => seqV x env
  | .rng1 hi, env => (evE hi env).bind fun x env => (intV x env).bind fun h env => rngV 0 h env
  | .rng2 lo hi, env => (evE lo env).bind fun x env => (evE hi env).bind fun y env => (intV x env).bind fun l env => (intV y env).bind fun h env => rngV l h env
  | .enm e, env => (evE e env).bind fun x env => (seqV x env).bind fun ds env => .ok (enumD 0 ds) env
  | .zip a b, env => (evE a env).bind fun x env => (evE b env).bind fun y env => match takeDs [x, y] env with
    | some ([dx, dy], env) => (match dx, dy with
      | .lst l, .lst m => .ok (zipD l m) env
      | .tup l, .tup m => .ok (zipD l m) env
      | _, _ => .err)
    | _ => .err
  | .zip3 a b c, env => (evE a env).bind fun x env => (evE b env).bind fun y env => (evE c env).bind fun z env => zip3V [x, y, z] env
  | .chars e, env => (evE e env).bind fun x env => charsV x env
end
/-- target = value; a fresh thing to a name is its own -/
def asg (t : Tg) (v : Vd) (env : Env) : Res Unit := match t, v with
  | .nm i, .fr d => (match setV env i (.own d) with
    | some env => .ok () env
    | none => .err)
  | t, v => (takeR v env).bind fun d env => asT C fns t d env
def parL : List Nat → List Vd → Env → Option Env
  | [], [], env => some env
  | i :: is, .fr d :: vs, env => (match setV env i (.own d) with
    | some env => parL is vs env
    | none => none)
  | i :: is, .fz d :: vs, env => (match setV env i (.val d) with
    | some env => parL is vs env
    | none => none)
  | _, _, _ => none
/-- things of slots are frozen first -/
def settle : List Vd → Env → Option (List Vd × Env)
  | [], env => some ([], env)
  | .bw i :: vs, env => (match takeD (.bw i) env with
    | some (d, env) => (match settle vs env with
      | some (vs, env) => some (.fz d :: vs, env)
      | none => none)
    | none => none)
  | v :: vs, env => (match settle vs env with
    | some (vs, env) => some (v :: vs, env)
    | none => none)
def par (is : List Nat) (vs : List Vd) (env : Env) : Res Unit := match settle vs env with
  | some (vs, env) => (match parL is vs env with
    | some env => .ok () env
    | none => .err)
  | none => .err
def forL (asg : D → Env → Res Unit) (body : Env → Res Flow) : List D → Env → Res Flow
  | [], env => .ok .next env
  | d :: ds, env => (asg d env).bind fun _ env => (body env).bind fun f env => match f with
    | .next => forL asg body ds env
    | .cont => forL asg body ds env
    | .brk => .ok .next env
    | .ret v => .ok (.ret v) env
def whlL (c : Env → Res Bool) (body : Env → Res Flow) : Nat → Env → Res Flow
  | 0, _ => .err
  | n + 1, env => (c env).bind fun k env => if k = true then (body env).bind fun f env => (match f with
    | .next => whlL c body n env
    | .cont => whlL c body n env
    | .brk => .ok .next env
    | .ret v => .ok (.ret v) env) else .ok .next env
variable (W : Nat)
mutual
def exS : S → Env → Res Flow
  | .asg t e, env => (evE C fns e env).bind fun v env => (asg C fns t v env).bind fun _ env => .ok .next env
  | .par is es, env => (evEs C fns es env).bind fun vs env => (par is vs env).bind fun _ env => .ok .next env
  | .app i e, env => match ownD env i with
    | some (.lst _) => (evE C fns e env).bind fun v env => (takeR v env).bind fun d env => (match ownD env i with
      | some (.lst l) => if l.length < sizeLine then (match putOwn env i (.lst (l ++ [d])) with
        | some env => .ok .next env
        | none => .err) else .err
      | _ => .err)
    | _ => .err
  | .ext i e, env => match ownD env i with
    | some (.lst _) => (evE C fns e env).bind fun v env => (match ownD env i, itemsV i v env with
      | some (.lst l), some m => if l.length + m.length ≤ sizeLine then (match putOwn env i (.lst (l ++ m)) with
        | some env => .ok .next env
        | none => .err) else .err
      | _, _ => .err)
    | _ => .err
  | .expr e, env => (evE C fns e env).bind fun _ env => .ok .next env
  | .ret none, env => .ok (.ret (.fz .non)) env
  | .ret (some e), env => (evE C fns e env).bind fun v env => .ok (.ret v) env
  | .ite c a b, env => (evE C fns c env).bind fun x env => (boolV x env).bind fun k env => if k = true then exSs a env else exSs b env
  | .for t it body, env => (evIt C fns it env).bind fun ds env => forL (asT C fns t) (exSs body) ds env
  | .whl c body, env => whlL (fun env => (evE C fns c env).bind fun x env => boolV x env) (exSs body) W env
  | .forK t i f body, env => (match pthD env i f with
    | some (.dt l) => noExc (forL (asT C fns t) (exSs body) (l.map fun p => .tup (p.1.map keyD1)) env)
    | _ => .err)
  | .fillA i f t g x e k v, env => (match ownD env i with
    | some (.obj c l) => (match l.lookup g with
      | some (.dt kvs) => if fldOk fns c f = true ∧ l.length < 1000 ∧ f ≠ g then (match putOwn env i (.obj c (fput f (.clo 0 []) l)) with
        | some env => (match fillL (asT C fns t) (evE C fns e) (evE C fns k) (evE C fns v) x (kvs.map fun p => .tup (p.1.map keyD1)) [] env with
          | .ok acc env => (match ownD env i with
            | some (.obj c2 l2) => if c2 = c ∧ (l2.lookup f).isSome = true then (match putOwn env i (.obj c (fput f (.dt acc) l2)) with
              | some env => .ok .next env
              | none => .err) else .err
            | _ => .err)
          | _ => .err)
        | none => .err) else .err
      | _ => .err)
    | _ => .err)
  | .augA i f op e, env => match ownD env i with
    | some (.obj c0 l) => (match l.lookup f with
      | some (.int a) => if op = .Add then (evE C fns e env).bind fun v env => (match v, ownD env i with
        | .fz (.int b), some (.obj c l) => if fldOk fns c f = true ∧ l.length < 1000 ∧ c = c0 then (match putOwn env i (.obj c (fput f (.int (a + b)) l)) with
          | some env => .ok .next env
          | none => .err) else .err
        | _, _ => .err) else .err
      | _ => .err)
    | _ => .err
  | .raise c f e, env => (evE C fns e env).bind fun v env => (takeR v env).bind fun d env => .exc (.exc c [(f, d)]) env
  | .saidB cs h, env => (match env.head? with
    | some (.val (.clo j caps)) => (match C j caps with
      | .ret (.fz d) [] => .ok (.ret (.fr (.lst [d]))) env
      | .ret (.fr d) [] => .ok (.ret (.fr (.lst [d]))) env
      | .exc (.exc c l) [] => if cs.contains c = true then (callV C fns h [.fz (.exc c l)] env).bind fun v env => .ok (.ret v) env else .err
      | _ => .err)
    | _ => .err)
  | .pass, env => .ok .next env
  | .brk, env => .ok .brk env
  | .cont, env => .ok .cont env
  | .never, _ => .err
  | .aug i op e, env => match env[i]? with
    | some (.val (.int a)) => if op = .Add ∨ op = .Sub then (evE C fns e env).bind fun v env => (match v with
      | .fz (.int b) => (match setV env i (.val (.int (if op = .Add then a + b else a - b))) with
        | some env => .ok .next env
        | none => .err)
      | _ => .err) else .err
    | _ => .err
def exSs : List S → Env → Res Flow
  | [], env => .ok .next env
  | s :: ss, env => (exS s env).bind fun f env => match f with
    | .next => exSs ss env
    | f => .ok f env
end
end
def start (ms : List Bool) (n : Nat) (ds : List D) : Env := (ms.zip ds).map (fun p => if p.1 = true then .ref p.2 else .val p.2) ++ List.replicate (n - ds.length) .no
def outsOf : List Bool → Env → Option (List D)
  | [], _ => some []
  | false :: ms, _ :: env => outsOf ms env
  | true :: ms, .ref d :: env => (outsOf ms env).map (d :: ·)
  | _, _ => none
def rtOf (env : Env) : Vd → Option Rt
  | .fz d => some (.fz d)
  | .fr d => some (.fr d)
  | .bw i => match env[i]? with
    | some (.own d) => some (.fr d)
    | some (.val d) => some (.fz d)
    | some (.ref _) => some (.prm i)
    | _ => none
def finish (ms : List Bool) : Res Flow → CRes
  | .ok .next env => (match outsOf ms env with
    | some o => .ret (.fz .non) o
    | none => .err)
  | .ok (.ret v) env => (match outsOf ms env, rtOf env v with
    | some o, some r => .ret r o
    | _, _ => .err)
  | .exc x env => (match outsOf ms env with
    | some o => .exc x o
    | none => .err)
  | _ => .err
def runFn (C : Callee) (fns : List Fn) (W : Nat) (fn : Fn) (ds : List D) : CRes :=
  if ds.length = fn.ps.length then finish fn.modes (exSs C fns W fn.body (start fn.modes fn.ns.length ds)) else .err
def callF (fns : List Fn) (W : Nat) : Nat → Callee
  | 0 => fun _ _ => .err
  | k + 1 => fun f ds => match fns[f]? with
    | some fn => runFn (callF fns W k) fns W fn ds
    | none => .err
end PB

/-! PZm -/
/-! PZ, part M: sorted lists, plainly. -/
namespace PB
/-! ### two lists alike -/
theorem eq_of_up : ∀ {l m : List Int}, l.Pairwise (· < ·) → m.Pairwise (· < ·) → (∀ x, x ∈ l ↔ x ∈ m) → l = m
  | [], [], _, _, _ => rfl
  | [], b :: m, _, _, h => by have := (h b).mpr List.mem_cons_self; cases this
  | a :: l, [], _, _, h => by have := (h a).mp List.mem_cons_self; cases this
  | a :: l, b :: m, hl, hm, h => by
    obtain ⟨l1, l2⟩ := List.pairwise_cons.mp hl
    obtain ⟨m1, m2⟩ := List.pairwise_cons.mp hm
    have ab : a = b := by
      rcases List.mem_cons.mp ((h a).mp List.mem_cons_self) with z | z
      · exact z
      · rcases List.mem_cons.mp ((h b).mpr List.mem_cons_self) with y | y
        · exact y.symm
        · have := l1 b y
          have := m1 a z
          omega
    subst ab
    rw [eq_of_up l2 m2 fun x => ?_]
    constructor
    · intro hx
      rcases List.mem_cons.mp ((h x).mp (List.mem_cons_of_mem _ hx)) with z | z
      · have := l1 x hx
        omega
      · exact z
    · intro hx
      rcases List.mem_cons.mp ((h x).mpr (List.mem_cons_of_mem _ hx)) with z | z
      · have := m1 x hx
        omega
      · exact z
theorem insU_mem {x y : Int} : ∀ {l : List Int}, y ∈ insU x l ↔ y = x ∨ y ∈ l
  | [] => by simp [insU]
  | a :: l => by
    unfold insU
    by_cases h1 : x < a
    · rw [if_pos h1]; simp
    · rw [if_neg h1]
      by_cases h2 : x = a
      · rw [if_pos h2, h2]; simp
      · rw [if_neg h2, List.mem_cons, insU_mem, List.mem_cons]
        constructor
        · rintro (z | z | z)
          · exact .inr (.inl z)
          · exact .inl z
          · exact .inr (.inr z)
        · rintro (z | z | z)
          · exact .inr (.inl z)
          · exact .inl z
          · exact .inr (.inr z)
theorem insU_up {x : Int} : ∀ {l : List Int}, l.Pairwise (· < ·) → (insU x l).Pairwise (· < ·)
  | [], _ => by simp [insU]
  | a :: l, h => by
    obtain ⟨h1, h2⟩ := List.pairwise_cons.mp h
    unfold insU
    by_cases q1 : x < a
    · rw [if_pos q1]
      refine List.pairwise_cons.mpr ⟨fun y hy => ?_, h⟩
      rcases List.mem_cons.mp hy with z | z
      · omega
      · have := h1 y z; omega
    · rw [if_neg q1]
      by_cases q2 : x = a
      · rw [if_pos q2]; exact h
      · rw [if_neg q2]
        refine List.pairwise_cons.mpr ⟨fun y hy => ?_, insU_up h2⟩
        rcases insU_mem.mp hy with z | z
        · omega
        · exact h1 y z
theorem uniqL_mem {y : Int} : ∀ {l : List Int}, y ∈ uniqL l ↔ y ∈ l
  | [] => by simp [uniqL]
  | a :: l => by rw [uniqL, insU_mem, uniqL_mem, List.mem_cons]
theorem uniqL_up : ∀ (l : List Int), (uniqL l).Pairwise (· < ·)
  | [] => by simp [uniqL]
  | a :: l => insU_up (uniqL_up l)
theorem uniqL_eq {l m : List Int} (h : m.Pairwise (· < ·)) (q : ∀ k, k ∈ m ↔ k ∈ l) : uniqL l = m := eq_of_up (uniqL_up l) h fun x => by rw [uniqL_mem, q x]
theorem nodup_len : ∀ {l m : List Int}, l.Nodup → m.Nodup → (∀ x, x ∈ l ↔ x ∈ m) → l.length = m.length := fun {l m} hl hm h => ((List.perm_ext_iff_of_nodup hl hm).mpr h).length_eq
theorem up_nodup {l : List Int} (h : l.Pairwise (· < ·)) : l.Nodup := h.imp fun h => by omega
/-! ### pairs -/
def LeP (a b : Int × Int) : Prop := a.1 < b.1 ∨ (a.1 = b.1 ∧ a.2 ≤ b.2)
theorem leP_iff {a b : Int × Int} : leP a b = true ↔ LeP a b := by unfold leP LeP; simp
theorem insP_perm (x : Int × Int) : ∀ l : List (Int × Int), (insP x l).Perm (x :: l)
  | [] => List.Perm.refl _
  | y :: r => by
    unfold insP
    split
    · exact List.Perm.refl _
    · exact ((insP_perm x r).cons y).trans (List.Perm.swap _ _ _)
theorem sortPL_perm : ∀ l : List (Int × Int), (sortPL l).Perm l
  | [] => List.Perm.refl _
  | x :: r => (insP_perm x _).trans ((sortPL_perm r).cons x)
theorem insP_up {x : Int × Int} : ∀ {l : List (Int × Int)}, l.Pairwise LeP → (insP x l).Pairwise LeP
  | [], _ => by simp [insP]
  | y :: r, h => by
    obtain ⟨h1, h2⟩ := List.pairwise_cons.mp h
    unfold insP
    split
    · rename_i q
      have q := leP_iff.mp q
      refine List.pairwise_cons.mpr ⟨fun z hz => ?_, h⟩
      rcases List.mem_cons.mp hz with e | e
      · rw [e]; exact q
      · have := h1 z e
        unfold LeP at *
        omega
    · rename_i q
      have q : ¬ LeP x y := fun z => q (leP_iff.mpr z)
      refine List.pairwise_cons.mpr ⟨fun z hz => ?_, insP_up h2⟩
      rcases List.mem_cons.mp ((insP_perm x r).mem_iff.mp hz) with e | e
      · rw [e]
        unfold LeP at *
        omega
      · exact h1 z e
theorem sortPL_up : ∀ l : List (Int × Int), (sortPL l).Pairwise LeP
  | [] => by simp [sortPL]
  | x :: r => insP_up (sortPL_up r)
theorem eq_of_leP : ∀ {l m : List (Int × Int)}, l.Perm m → l.Pairwise LeP → m.Pairwise LeP → l = m
  | [], m, p, _, _ => (List.Perm.eq_nil p.symm).symm
  | a :: l, [], p, _, _ => by cases List.Perm.eq_nil p
  | a :: l, b :: m, p, hl, hm => by
    obtain ⟨l1, l2⟩ := List.pairwise_cons.mp hl
    obtain ⟨m1, m2⟩ := List.pairwise_cons.mp hm
    have ab : a = b := by
      rcases List.mem_cons.mp (p.mem_iff.mp List.mem_cons_self) with z | z
      · exact z
      · rcases List.mem_cons.mp (p.mem_iff.mpr List.mem_cons_self) with y | y
        · exact y.symm
        · have q1 := l1 b y
          have q2 := m1 a z
          unfold LeP at q1 q2
          exact Prod.ext (by omega) (by omega)
    subst ab
    rw [eq_of_leP p.cons_inv l2 m2]
end PB

/-! PZn -/
/-! PZ, part N: tuples in turn, plain. -/
namespace PB
open PySem L2 PZ
theorem lexL_irr : ∀ a : List Int, lexL a a = false
  | [] => rfl
  | x :: xs => by
    unfold lexL
    rw [if_pos rfl]
    exact lexL_irr xs
theorem lexL_tot : ∀ {a b : List Int}, a.length = b.length → a ≠ b → lexL b a = false → lexL a b = true
  | [], [], _, h, _ => absurd rfl h
  | [], _ :: _, l, _, _ => nomatch l
  | _ :: _, [], l, _, _ => nomatch l
  | x :: xs, y :: ys, l, h, q => by
    unfold lexL at q ⊢
    by_cases e : x = y
    · rw [if_pos e]
      rw [if_pos e.symm] at q
      exact lexL_tot (by simpa using l) (fun z => h (by rw [e, z])) q
    · rw [if_neg e]
      rw [if_neg (fun z => e z.symm)] at q
      have q := of_decide_eq_false q
      exact decide_eq_true (by omega)
theorem lexL_trans : ∀ {a b c : List Int}, lexL a b = true → lexL b c = true → lexL a c = true
  | [], _, _ :: _, _, _ => rfl
  | [], [], [], h, _ => nomatch h
  | [], _ :: _, [], _, h => nomatch h
  | _ :: _, [], _, h, _ => nomatch h
  | _ :: _, _ :: _, [], _, h => nomatch h
  | x :: xs, y :: ys, z :: zs, h1, h2 => by
    unfold lexL at h1 h2 ⊢
    by_cases e1 : x = y
    · rw [if_pos e1] at h1
      by_cases e2 : y = z
      · rw [if_pos e2] at h2
        rw [if_pos (e1.trans e2)]
        exact lexL_trans h1 h2
      · rw [if_neg e2] at h2
        rw [if_neg (fun w => e2 (e1.symm.trans w)), e1]
        exact h2
    · rw [if_neg e1] at h1
      have h1 := of_decide_eq_true h1
      by_cases e2 : y = z
      · rw [← e2, if_neg e1]
        exact decide_eq_true h1
      · rw [if_neg e2] at h2
        have h2 := of_decide_eq_true h2
        rw [if_neg (by omega)]
        exact decide_eq_true (by omega)
abbrev UpT (l : List (List Int)) : Prop := l.Pairwise fun a b => lexL a b = true
theorem insT_mem {x : List Int} : ∀ {l : List (List Int)} {y : List Int}, y ∈ insT x l ↔ y = x ∨ y ∈ l
  | [], y => by simp [insT]
  | z :: r, y => by
    unfold insT
    by_cases h : lexL x z = true
    · rw [if_pos h]; simp
    · rw [if_neg h]
      by_cases e : x = z
      · rw [if_pos e, e]; simp
      · rw [if_neg e, List.mem_cons, insT_mem (l := r), List.mem_cons]
        constructor
        · rintro (h | h | h)
          · exact .inr (.inl h)
          · exact .inl h
          · exact .inr (.inr h)
        · rintro (h | h | h)
          · exact .inr (.inl h)
          · exact .inl h
          · exact .inr (.inr h)
theorem uniqT_mem : ∀ {l : List (List Int)} {y : List Int}, y ∈ uniqT l ↔ y ∈ l
  | [], y => Iff.rfl
  | x :: r, y => by
    show y ∈ insT x (uniqT r) ↔ _
    rw [insT_mem, uniqT_mem, List.mem_cons]
theorem insT_up {d : Nat} {x : List Int} (hx : x.length = d) : ∀ {l : List (List Int)}, (∀ y ∈ l, y.length = d) → UpT l → UpT (insT x l)
  | [], _, _ => List.pairwise_singleton _ _
  | z :: r, he, hu => by
    unfold insT
    have hz := he z List.mem_cons_self
    obtain ⟨h1, h2⟩ := List.pairwise_cons.mp hu
    by_cases h : lexL x z = true
    · rw [if_pos h]
      refine List.pairwise_cons.mpr ⟨fun y hy => ?_, hu⟩
      rcases List.mem_cons.mp hy with e | e
      · rw [e]; exact h
      · exact lexL_trans h (h1 y e)
    · rw [if_neg h]
      by_cases e : x = z
      · rw [if_pos e]; exact hu
      · rw [if_neg e]
        refine List.pairwise_cons.mpr ⟨fun y hy => ?_, insT_up hx (fun y hy => he y (List.mem_cons_of_mem _ hy)) h2⟩
        rcases insT_mem.mp hy with q | q
        · rw [q]
          exact lexL_tot (by omega) (fun w => e w.symm) (by simpa using h)
        · exact h1 y q
theorem uniqT_up {d : Nat} : ∀ {l : List (List Int)}, (∀ y ∈ l, y.length = d) → UpT (uniqT l)
  | [], _ => List.Pairwise.nil
  | x :: r, he => insT_up (d := d) (he x List.mem_cons_self) (fun y hy => he y (List.mem_cons_of_mem _ (uniqT_mem.mp hy))) (uniqT_up fun y hy => he y (List.mem_cons_of_mem _ hy))
/-- the same members, both ascending -/
theorem upT_eq : ∀ {a b : List (List Int)}, UpT a → UpT b → (∀ x, x ∈ a ↔ x ∈ b) → a = b
  | [], [], _, _, _ => rfl
  | [], y :: b, _, _, h => nomatch (h y).mpr List.mem_cons_self
  | x :: a, [], _, _, h => nomatch (h x).mp List.mem_cons_self
  | x :: a, y :: b, ha, hb, h => by
    obtain ⟨a1, a2⟩ := List.pairwise_cons.mp ha
    obtain ⟨b1, b2⟩ := List.pairwise_cons.mp hb
    have e : x = y := by
      rcases List.mem_cons.mp ((h x).mp List.mem_cons_self) with e | e
      · exact e
      · rcases List.mem_cons.mp ((h y).mpr List.mem_cons_self) with q | q
        · exact q.symm
        · have z1 := b1 x e
          have z2 := a1 y q
          have := lexL_asym z1
          rw [z2] at this
          exact nomatch this
    subst e
    have nx : ∀ {c : List (List Int)}, (∀ z ∈ c, lexL x z = true) → x ∉ c := fun hc z => by
      have := hc x z
      rw [lexL_irr] at this
      exact nomatch this
    refine congrArg _ (upT_eq a2 b2 fun z => ⟨fun q => ?_, fun q => ?_⟩)
    · rcases List.mem_cons.mp ((h z).mp (List.mem_cons_of_mem _ q)) with e | e
      · rw [e] at q; exact (nx a1 q).elim
      · exact e
    · rcases List.mem_cons.mp ((h z).mpr (List.mem_cons_of_mem _ q)) with e | e
      · rw [e] at q; exact (nx b1 q).elim
      · exact e
theorem evenT_len {r : List (List Int)} (h : evenT r = true) : ∃ d, 1 ≤ d ∧ ∀ x ∈ r, x.length = d := by
  cases r with
  | nil => exact ⟨1, Nat.le_refl _, fun x hx => nomatch hx⟩
  | cons x r =>
    unfold evenT at h
    simp only [Bool.and_eq_true, decide_eq_true_eq, List.all_eq_true] at h
    refine ⟨x.length, h.1, fun y hy => ?_⟩
    rcases List.mem_cons.mp hy with e | e
    · rw [e]
    · exact h.2 y e
theorem srtd_up {V : Type} {k : V → List Int} {d : Nat} {ys : List V} (hs : SrtO.Srtd (fun x y => lexL (k x) (k y)) ys) (hl : ∀ y ∈ ys, (k y).length = d) (nd : (ys.map k).Nodup) : UpT (ys.map k) := by
  have nd' := List.pairwise_map.mp nd
  refine List.pairwise_map.mpr ?_
  have hb := List.Pairwise.and hs nd'
  refine List.Pairwise.imp_of_mem (fun {a b} ha hb q => ?_) hb
  exact lexL_tot (by rw [hl a ha, hl b hb]) q.2 q.1
end PB

/-! PBb -/
/-! PB, part B: what data stands for in the abstract heap. -/
namespace PB
open PySem L2

/-- the tables of code objects that are followed -/
class Tb where
  T : List (Addr × Str)
variable [Tb]
/-- no table -/
def NT (o : HO) : Prop := ∀ ps, o ≠ .tbl ps
/-- an error as a value: of the class at C, its dict at dx -/
def exv (a C dx : Addr) : HO := .ext fun h => ∃ (oe : Obj) (vs : Array Value), h.get? a = some oe ∧ oe.cls = .ref C ∧ oe.dict = some dx ∧ oe.data = .fields vs
theorem exv_nt {a C dx : Addr} : NT (exv a C dx) := fun ps z => by
  unfold exv at z
  cases z
/-- what an error's class says; its attribute f is none of the class's own -/
structure XcC (K : PySem.W.Frag) (C : Addr) : Prop where
  xf : XfC K C
  ec : ExcC K C
def XoOk (K : PySem.W.Frag) (c : Str) (l : List (Str × D)) : Prop := XcC K (He.ga K c) ∧ ∀ p ∈ l, PySem.W.findIn K (.ref (He.ga K c)) p.1 = some none
/-- an object's class, its attributes: none of the class's own -/
def ObOk (K : PySem.W.Frag) (c : Str) (l : List (Str × D)) : Prop := Cls K (He.ga K c) ∧ ∀ p ∈ l, NoAttr K (He.ga K c) p.1
section
variable (K : PySem.W.Frag) (H : Hp) (O : Addr → Prop)
mutual
/-- the value v is the thing d, frozen: none of its objects is among O -/
def Rep : D → V → Prop
  | .non, v => v = .non
  | .bl b, v => v = .bl b
  | .int i, v => v = .int i
  | .str s, v => v = .str s
  | .tup l, v => ∃ a xs, v = .ref a ∧ ¬ O a ∧ H a = some (.tup xs) ∧ Reps l xs
  | .lst l, v => ∃ a xs, v = .ref a ∧ (¬ O a ∨ SqL K (fun _ => none) a xs) ∧ SqL K H a xs ∧ Reps l xs
  | .dk l, v => ∃ a kvs, v = .ref a ∧ ¬ O a ∧ H a = some (.dK kvs) ∧ Repk l kvs
  | .dt l, v => ∃ a kvs, v = .ref a ∧ ¬ O a ∧ Rd H a (.dT kvs) ∧ Rept l kvs
  | .obj c l, v => ∃ a dx xs, v = .ref a ∧ ¬ O a ∧ H a = some (.ins (He.ga K c) dx xs) ∧ Repf l xs ∧ ObOk K c l
  | .exc c l, v => ∃ a dx xs, v = .ref a ∧ ¬ O a ∧ ¬ O dx ∧ H a = some (exv a (He.ga K c) dx) ∧ H dx = some (.xd xs) ∧ Repf l xs ∧ XoOk K c l
  | .clo _ _, v => ∃ a, v = V.ref a
def Reps : List D → List V → Prop
  | [], xs => xs = []
  | d :: ds, xs => ∃ x r, xs = x :: r ∧ Rep d x ∧ Reps ds r
def Repk : List (Key × D) → List (Key × V) → Prop
  | [], xs => xs = []
  | (k, d) :: ds, xs => ∃ x r, xs = (k, x) :: r ∧ Rep d x ∧ Repk ds r
def Rept : List (List Key × D) → List (List Key × V) → Prop
  | [], xs => xs = []
  | (k, d) :: ds, xs => ∃ x r, xs = (k, x) :: r ∧ Rep d x ∧ Rept ds r
def Repf : List (Str × D) → List (Str × V) → Prop
  | [], xs => xs = []
  | (k, d) :: ds, xs => ∃ x r, xs = (k, x) :: r ∧ Rep d x ∧ Repf ds r
end
/-- at a stands the thing d, to be changed -/
def Shp (d : D) (a : Addr) : Prop := match d with
  | .lst l => ∃ xs, H a = some (.lst xs) ∧ Reps K H O l xs
  | .dk l => ∃ kvs, H a = some (.dK kvs) ∧ Repk K H O l kvs
  | .dt l => ∃ kvs, H a = some (.dT kvs) ∧ Rept K H O l kvs
  | .obj c l => ∃ dx xs, H a = some (.ins (He.ga K c) dx xs) ∧ Repf K H O l xs ∧ ObOk K c l
  | _ => False
end

/-- an induction over data -/
theorem D.ind {P : D → Prop} (h1 : P .non) (h2 : ∀ b, P (.bl b)) (h3 : ∀ i, P (.int i)) (h4 : ∀ s, P (.str s)) (h5 : ∀ l, (∀ d ∈ l, P d) → P (.tup l)) (h6 : ∀ l, (∀ d ∈ l, P d) → P (.lst l))
    (h7 : ∀ l, (∀ p ∈ l, P p.2) → P (.dk l)) (h8 : ∀ l, (∀ p ∈ l, P p.2) → P (.dt l)) (h9 : ∀ c l, (∀ p ∈ l, P p.2) → P (.obj c l)) (h10 : ∀ c l, (∀ p ∈ l, P p.2) → P (.exc c l)) (h11 : ∀ c l, (∀ d ∈ l, P d) → P (.clo c l)) : ∀ d, P d := by
  intro d
  refine D.rec (motive_1 := P) (motive_2 := fun l => ∀ d ∈ l, P d) (motive_3 := fun l => ∀ p ∈ l, P p.2) (motive_4 := fun l => ∀ p ∈ l, P p.2) (motive_5 := fun l => ∀ p ∈ l, P p.2) (motive_6 := fun p => P p.2) (motive_7 := fun p => P p.2) (motive_8 := fun p => P p.2)
    h1 h2 h3 h4 h5 h6 h7 h8 h9 h10 h11 ?_ ?_ ?_ ?_ ?_ ?_ ?_ ?_ ?_ ?_ ?_ d
  · intro d hd; cases hd
  · intro h t ih1 ih2 d hd
    rcases List.mem_cons.mp hd with e | e
    · rw [e]; exact ih1
    · exact ih2 d e
  · intro d hd; cases hd
  · intro h t ih1 ih2 d hd
    rcases List.mem_cons.mp hd with e | e
    · rw [e]; exact ih1
    · exact ih2 d e
  · intro d hd; cases hd
  · intro h t ih1 ih2 d hd
    rcases List.mem_cons.mp hd with e | e
    · rw [e]; exact ih1
    · exact ih2 d e
  · intro d hd; cases hd
  · intro h t ih1 ih2 d hd
    rcases List.mem_cons.mp hd with e | e
    · rw [e]; exact ih1
    · exact ih2 d e
  · intro a b h; exact h
  · intro a b h; exact h
  · intro a b h; exact h

section
variable {K : PySem.W.Frag} {H H' : Hp} {O O' : Addr → Prop}

/-- what is tracked and not among R stays -/
structure Ext (R : Addr → Prop) (H H' : Hp) : Prop where
  keep : ∀ a o, H a = some o → ¬ R a → NT o → H' a = some o
  dom : ∀ a o, H a = some o → ∃ o', H' a = some o'
theorem Ext.refl {R : Addr → Prop} : Ext R H H := ⟨fun _ _ h _ _ => h, fun _ o h => ⟨o, h⟩⟩
theorem Ext.trans {R R' : Addr → Prop} {H1 H2 : Hp} (a : Ext R H H1) (b : Ext R' H1 H2) (h : ∀ x, R' x → R x ∨ H x = none) : Ext R H H2 :=
  ⟨fun x o e n t => b.keep x o (a.keep x o e n t) (fun z => (h x z).elim n (fun z => by rw [e] at z; cases z)) t, fun x o e => let ⟨_, e1⟩ := a.dom x o e; b.dom x _ e1⟩
theorem Ext.mono {R R' : Addr → Prop} (a : Ext R H H') (h : ∀ x, R x → R' x) : Ext R' H H' := ⟨fun x o e n t => a.keep x o e (fun z => n (h x z)) t, a.dom⟩
theorem Ext.new {R : Addr → Prop} {p : Addr} {o : HO} (h : H p = none) : Ext R H (upd H p o) :=
  ⟨fun a u e _ _ => by rw [upd_ne (ne_of_none e h)]; exact e, fun a u e => ⟨u, by rw [upd_ne (ne_of_none e h)]; exact e⟩⟩
theorem Ext.free {R : Addr → Prop} {p : Addr} (e : Ext R H H') (h : H' p = none) : H p = none := by
  cases q : H p with
  | none => rfl
  | some o =>
    obtain ⟨o', e'⟩ := e.dom p o q
    rw [h] at e'; cases e'

/-- a step of heaps that leaves what is frozen: what is outside O stays; new owners are fresh -/
structure Fz (H : Hp) (O : Addr → Prop) (H' : Hp) (O' : Addr → Prop) : Prop where
  keep : ∀ a o, H a = some o → ¬ O a → NT o → H' a = some o
  new : ∀ a, O' a → O a ∨ H a = none
  dom : ∀ a o, H a = some o → ∃ o', H' a = some o'
theorem Fz.refl : Fz H O H O := ⟨fun _ _ h _ _ => h, fun _ h => .inl h, fun _ o h => ⟨o, h⟩⟩
theorem Fz.rd (f : Fz H O H' O') {a : Addr} {u : HO} (n : ¬ O a) (t : NT u) (r : Rd H a u) : Rd H' a u := by
  rcases r with r | ⟨o, r⟩
  · exact .inl (f.keep a _ r n t)
  · exact .inr ⟨o, f.keep a _ r n fun _ z => nomatch z⟩
theorem Fz.nO (f : Fz H O H' O') {a : Addr} {o : HO} (n : ¬ O a) (e : H a = some o) : ¬ O' a := fun z => (f.new a z).elim n fun q => by rw [e] at q; cases q
theorem Fz.nRd (f : Fz H O H' O') {a : Addr} {u : HO} (n : ¬ O a) (r : Rd H a u) : ¬ O' a := by
  rcases r with r | ⟨o, r⟩
  · exact f.nO n r
  · exact f.nO n r
theorem noRd {a : Addr} {u : HO} (r : Rd (fun _ => none) a u) : False := by
  rcases r with r | ⟨o, r⟩ <;> cases r
theorem Fz.sqL (f : Fz H O H' O') {a : Addr} {xs : List V} (n : ¬ O a ∨ SqL K (fun _ => none) a xs) (h : SqL K H a xs) : (¬ O' a ∨ SqL K (fun _ => none) a xs) ∧ SqL K H' a xs := by
  rcases n with n | n
  · rcases h with h | h
    · exact ⟨.inl (f.nRd n h), .inl (f.rd n (fun _ z => nomatch z) h)⟩
    · exact ⟨.inr (.inr h), .inr h⟩
  · rcases n with n | n
    · exact (noRd n).elim
    · exact ⟨.inr (.inr n), .inr n⟩

theorem Reps.imp {l : List D} (ih : ∀ d ∈ l, ∀ v, Rep K H O d v → Rep K H' O' d v) : ∀ {xs : List V}, Reps K H O l xs → Reps K H' O' l xs := by
  induction l with
  | nil => intro xs h; exact h
  | cons d ds i =>
    intro xs h
    simp only [Reps] at h ⊢
    obtain ⟨x, r, e, h1, h2⟩ := h
    exact ⟨x, r, e, ih d List.mem_cons_self x h1, i (fun d hd => ih d (List.mem_cons_of_mem _ hd)) h2⟩
theorem Repk.imp {l : List (Key × D)} (ih : ∀ p ∈ l, ∀ v, Rep K H O p.2 v → Rep K H' O' p.2 v) : ∀ {xs : List (Key × V)}, Repk K H O l xs → Repk K H' O' l xs := by
  induction l with
  | nil => intro xs h; exact h
  | cons d ds i =>
    obtain ⟨k, d⟩ := d
    intro xs h
    simp only [Repk] at h ⊢
    obtain ⟨x, r, e, h1, h2⟩ := h
    exact ⟨x, r, e, ih (k, d) List.mem_cons_self x h1, i (fun d hd => ih d (List.mem_cons_of_mem _ hd)) h2⟩
theorem Rept.imp {l : List (List Key × D)} (ih : ∀ p ∈ l, ∀ v, Rep K H O p.2 v → Rep K H' O' p.2 v) : ∀ {xs : List (List Key × V)}, Rept K H O l xs → Rept K H' O' l xs := by
  induction l with
  | nil => intro xs h; exact h
  | cons d ds i =>
    obtain ⟨k, d⟩ := d
    intro xs h
    simp only [Rept] at h ⊢
    obtain ⟨x, r, e, h1, h2⟩ := h
    exact ⟨x, r, e, ih (k, d) List.mem_cons_self x h1, i (fun d hd => ih d (List.mem_cons_of_mem _ hd)) h2⟩
theorem Repf.imp {l : List (Str × D)} (ih : ∀ p ∈ l, ∀ v, Rep K H O p.2 v → Rep K H' O' p.2 v) : ∀ {xs : List (Str × V)}, Repf K H O l xs → Repf K H' O' l xs := by
  induction l with
  | nil => intro xs h; exact h
  | cons d ds i =>
    obtain ⟨k, d⟩ := d
    intro xs h
    simp only [Repf] at h ⊢
    obtain ⟨x, r, e, h1, h2⟩ := h
    exact ⟨x, r, e, ih (k, d) List.mem_cons_self x h1, i (fun d hd => ih d (List.mem_cons_of_mem _ hd)) h2⟩
/-- FROZEN THINGS STAY -/
theorem Rep.step (f : Fz H O H' O') : ∀ (d : D) (v : V), Rep K H O d v → Rep K H' O' d v := by
  intro d
  induction d using D.ind with
  | h1 => intro v h; exact h
  | h2 b => intro v h; exact h
  | h3 b => intro v h; exact h
  | h4 b => intro v h; exact h
  | h5 l ih =>
    intro v h
    simp only [Rep] at h ⊢
    obtain ⟨a, xs, e, n, hs, hr⟩ := h
    exact ⟨a, xs, e, f.nO n hs, f.keep a _ hs n (fun _ z => nomatch z), hr.imp ih⟩
  | h6 l ih =>
    intro v h
    simp only [Rep] at h ⊢
    obtain ⟨a, xs, e, n, hs, hr⟩ := h
    exact ⟨a, xs, e, (f.sqL n hs).1, (f.sqL n hs).2, hr.imp ih⟩
  | h7 l ih =>
    intro v h
    simp only [Rep] at h ⊢
    obtain ⟨a, xs, e, n, hs, hr⟩ := h
    exact ⟨a, xs, e, f.nO n hs, f.keep a _ hs n (fun _ z => nomatch z), hr.imp ih⟩
  | h8 l ih =>
    intro v h
    simp only [Rep] at h ⊢
    obtain ⟨a, xs, e, n, hs, hr⟩ := h
    exact ⟨a, xs, e, f.nRd n hs, f.rd n (fun _ z => nomatch z) hs, hr.imp ih⟩
  | h9 c l ih =>
    intro v h
    simp only [Rep] at h ⊢
    obtain ⟨a, dx, xs, e, n, hs, hr, ho⟩ := h
    exact ⟨a, dx, xs, e, f.nO n hs, f.keep a _ hs n (fun _ z => nomatch z), hr.imp ih, ho⟩
  | h10 c l ih =>
    intro v h
    simp only [Rep] at h ⊢
    obtain ⟨a, dx, xs, e, n, n2, hs, hd, hr, ho⟩ := h
    exact ⟨a, dx, xs, e, f.nO n hs, f.nO n2 hd, f.keep a _ hs n exv_nt, f.keep dx _ hd n2 (fun _ z => nomatch z), hr.imp ih, ho⟩
  | h11 c l ih => intro v h; exact h
theorem Reps.step (f : Fz H O H' O') {l : List D} {xs : List V} (h : Reps K H O l xs) : Reps K H' O' l xs := h.imp fun d _ v => Rep.step f d v
theorem Repk.step (f : Fz H O H' O') {l : List (Key × D)} {xs : List (Key × V)} (h : Repk K H O l xs) : Repk K H' O' l xs := h.imp fun d _ v => Rep.step f d.2 v
theorem Rept.step (f : Fz H O H' O') {l : List (List Key × D)} {xs : List (List Key × V)} (h : Rept K H O l xs) : Rept K H' O' l xs := h.imp fun d _ v => Rep.step f d.2 v
theorem Repf.step (f : Fz H O H' O') {l : List (Str × D)} {xs : List (Str × V)} (h : Repf K H O l xs) : Repf K H' O' l xs := h.imp fun d _ v => Rep.step f d.2 v
/-- the object itself stays, too -/
theorem Shp.step (f : Fz H O H' O') {d : D} {a : Addr} (ha : ∀ o, H a = some o → NT o → H' a = some o) (h : Shp K H O d a) : Shp K H' O' d a := by
  cases d with
  | lst l => obtain ⟨xs, e, r⟩ := h; exact ⟨xs, ha _ e (fun _ z => nomatch z), r.step f⟩
  | dk l => obtain ⟨xs, e, r⟩ := h; exact ⟨xs, ha _ e (fun _ z => nomatch z), r.step f⟩
  | dt l => obtain ⟨xs, e, r⟩ := h; exact ⟨xs, ha _ e (fun _ z => nomatch z), r.step f⟩
  | obj c l => obtain ⟨dx, xs, e, r, o⟩ := h; exact ⟨dx, xs, ha _ e (fun _ z => nomatch z), r.step f, o⟩
  | _ => exact h
theorem Shp.there {d : D} {a : Addr} (h : Shp K H O d a) : ∃ o, H a = some o := by
  cases d with
  | lst l => obtain ⟨xs, e, r⟩ := h; exact ⟨_, e⟩
  | dk l => obtain ⟨xs, e, r⟩ := h; exact ⟨_, e⟩
  | dt l => obtain ⟨xs, e, r⟩ := h; exact ⟨_, e⟩
  | obj c l => obtain ⟨dx, xs, e, r, o⟩ := h; exact ⟨_, e⟩
  | _ => exact (show False from h).elim
/-- neither a tuple nor a table nor one's own thing -/
def Pl (o : HO) : Prop := (∀ xs, o ≠ HO.tup xs) ∧ NT o ∧ (∀ φ, o ≠ HO.ext φ) ∧ ∀ b u, o ≠ HO.frz b u
def Has (H : Hp) (a : Addr) : Prop := ∃ o, H a = some o ∧ Pl o
theorem pl_lst {xs : List V} : Pl (.lst xs) := ⟨(fun _ z => nomatch z), (fun _ z => nomatch z), (fun _ z => nomatch z), fun _ _ z => nomatch z⟩
theorem pl_dK {xs : List (Key × V)} : Pl (.dK xs) := ⟨(fun _ z => nomatch z), (fun _ z => nomatch z), (fun _ z => nomatch z), fun _ _ z => nomatch z⟩
theorem pl_dT {xs : List (List Key × V)} : Pl (.dT xs) := ⟨(fun _ z => nomatch z), (fun _ z => nomatch z), (fun _ z => nomatch z), fun _ _ z => nomatch z⟩
theorem pl_ins {C dx : Addr} {fs : List (Str × V)} : Pl (.ins C dx fs) := ⟨(fun _ z => nomatch z), (fun _ z => nomatch z), (fun _ z => nomatch z), fun _ _ z => nomatch z⟩
theorem Shp.has {d : D} {a : Addr} (h : Shp K H O d a) : Has H a := by
  cases d with
  | lst l => obtain ⟨xs, e, r⟩ := h; exact ⟨_, e, (fun _ z => nomatch z), (fun _ z => nomatch z), (fun _ z => nomatch z), fun _ _ z => nomatch z⟩
  | dk l => obtain ⟨xs, e, r⟩ := h; exact ⟨_, e, (fun _ z => nomatch z), (fun _ z => nomatch z), (fun _ z => nomatch z), fun _ _ z => nomatch z⟩
  | dt l => obtain ⟨xs, e, r⟩ := h; exact ⟨_, e, (fun _ z => nomatch z), (fun _ z => nomatch z), (fun _ z => nomatch z), fun _ _ z => nomatch z⟩
  | obj c l => obtain ⟨dx, xs, e, r, o⟩ := h; exact ⟨_, e, (fun _ z => nomatch z), (fun _ z => nomatch z), (fun _ z => nomatch z), fun _ _ z => nomatch z⟩
  | _ => exact (show False from h).elim
/-- the dict of all modules is a dict -/
def SmOk (H : Hp) : Prop := ∃ o : Obj, H sysModules = some (.frz o (.own 0)) ∧ o.cls = .type "dict"
/-- the owners, and the tables -/
structure Dm (H : Hp) (O : Addr → Prop) : Prop where
  dm : ∀ a, O a → Has H a
  tb : LamX.Tabs Tb.T H
  sm : SmOk H
theorem sm_upd {p : Addr} {o : HO} (h : Has H p) (t : SmOk H) : SmOk (upd H p o) := by
  obtain ⟨u, hu, _, n1, n2, n3⟩ := h
  obtain ⟨ob, e, c⟩ := t
  refine ⟨ob, ?_, c⟩
  rw [upd_ne fun z => ?_]
  · exact e
  · rw [z, hu] at e
    exact n3 _ _ (Option.some.inj e)
theorem SmOk.ext (t : SmOk H) (hk : ∀ a o, H a = some o → H' a = some o) : SmOk H' := let ⟨o, e, c⟩ := t; ⟨o, hk _ _ e, c⟩
instance {H : Hp} {O : Addr → Prop} : CoeFun (Dm H O) (fun _ => ∀ a, O a → Has H a) := ⟨Dm.dm⟩
theorem tabs_upd {T : List (Addr × Str)} {p : Addr} {o : HO} (h : Has H p) (t : LamX.Tabs T H) : LamX.Tabs T (upd H p o) := by
  obtain ⟨u, hu, _, n1, n2, _⟩ := h
  intro q hq
  obtain ⟨ps, h1, h2, h3⟩ := t q hq
  refine ⟨ps, ?_, h2, fun pos cv hc => ?_⟩
  · rw [upd_ne fun z => ?_]
    · exact h1
    · rw [z, hu] at h1
      exact n1 ps (Option.some.inj h1)
  · obtain ⟨c, e1, e2⟩ := h3 pos cv hc
    refine ⟨c, e1, ?_⟩
    rw [upd_ne fun z => ?_]
    · exact e2
    · rw [z, hu] at e2
      exact n2 _ (Option.some.inj e2)
/-- given up: frozen -/
theorem Shp.rep {d : D} {a : Addr} (h : Shp K H O d a) (n : ¬ O a) : Rep K H O d (.ref a) := by
  cases d with
  | lst l => obtain ⟨xs, e, r⟩ := h; exact ⟨a, xs, rfl, .inl n, SqL.of e, r⟩
  | dk l => obtain ⟨xs, e, r⟩ := h; exact ⟨a, xs, rfl, n, e, r⟩
  | dt l => obtain ⟨xs, e, r⟩ := h; exact ⟨a, xs, rfl, n, .inl e, r⟩
  | obj c l => obtain ⟨dx, xs, e, r, o⟩ := h; exact ⟨a, dx, xs, rfl, n, e, r, o⟩
  | _ => exact (show False from h).elim

/-- v may be read as d -/
def RdR (K : PySem.W.Frag) (H : Hp) (O : Addr → Prop) (d : D) (v : V) : Prop := Rep K H O d v ∨ ∃ a, v = .ref a ∧ Shp K H O d a
theorem RdR.non {v : V} (h : RdR K H O .non v) : v = .non := h.elim id fun ⟨_, _, z⟩ => (show False from z).elim
theorem RdR.bl {b : Bool} {v : V} (h : RdR K H O (.bl b) v) : v = .bl b := h.elim id fun ⟨_, _, z⟩ => (show False from z).elim
theorem RdR.int {i : Int} {v : V} (h : RdR K H O (.int i) v) : v = .int i := h.elim id fun ⟨_, _, z⟩ => (show False from z).elim
theorem RdR.str {s : Str} {v : V} (h : RdR K H O (.str s) v) : v = .str s := h.elim id fun ⟨_, _, z⟩ => (show False from z).elim
theorem RdR.tup {l : List D} {v : V} (h : RdR K H O (.tup l) v) : ∃ a xs, v = .ref a ∧ H a = some (.tup xs) ∧ Reps K H O l xs := by
  rcases h with h | ⟨_, _, z⟩
  · simp only [Rep] at h
    obtain ⟨a, xs, e, _, s, r⟩ := h
    exact ⟨a, xs, e, s, r⟩
  · exact (show False from z).elim
theorem RdR.lst {l : List D} {v : V} (h : RdR K H O (.lst l) v) : ∃ a xs, v = .ref a ∧ SqL K H a xs ∧ Reps K H O l xs := by
  rcases h with h | ⟨a, e, xs, e2, r⟩
  · simp only [Rep] at h
    obtain ⟨a, xs, e, _, s, r⟩ := h
    exact ⟨a, xs, e, s, r⟩
  · exact ⟨a, xs, e, SqL.of e2, r⟩
theorem RdR.dk {l : List (Key × D)} {v : V} (h : RdR K H O (.dk l) v) : ∃ a xs, v = .ref a ∧ H a = some (.dK xs) ∧ Repk K H O l xs := by
  rcases h with h | ⟨a, e, xs, e2, r⟩
  · simp only [Rep] at h
    obtain ⟨a, xs, e, _, s, r⟩ := h
    exact ⟨a, xs, e, s, r⟩
  · exact ⟨a, xs, e, e2, r⟩
theorem RdR.dt {l : List (List Key × D)} {v : V} (h : RdR K H O (.dt l) v) : ∃ a xs, v = .ref a ∧ Rd H a (.dT xs) ∧ Rept K H O l xs := by
  rcases h with h | ⟨a, e, xs, e2, r⟩
  · simp only [Rep] at h
    obtain ⟨a, xs, e, _, s, r⟩ := h
    exact ⟨a, xs, e, s, r⟩
  · exact ⟨a, xs, e, .inl e2, r⟩
theorem RdR.obj {c : Str} {l : List (Str × D)} {v : V} (h : RdR K H O (.obj c l) v) : ∃ a dx xs, v = .ref a ∧ H a = some (.ins (He.ga K c) dx xs) ∧ Repf K H O l xs ∧ ObOk K c l := by
  rcases h with h | ⟨a, e, dx, xs, e2, r, o⟩
  · simp only [Rep] at h
    obtain ⟨a, dx, xs, e, _, s, r, o⟩ := h
    exact ⟨a, dx, xs, e, s, r, o⟩
  · exact ⟨a, dx, xs, e, e2, r, o⟩
theorem RdR.exc {c : Str} {l : List (Str × D)} {v : V} (h : RdR K H O (.exc c l) v) : ∃ a dx xs, v = .ref a ∧ H a = some (exv a (He.ga K c) dx) ∧ H dx = some (.xd xs) ∧ Repf K H O l xs ∧ XoOk K c l := by
  rcases h with h | ⟨_, _, z⟩
  · simp only [Rep] at h
    obtain ⟨a, dx, xs, e, _, _, s, d, r, o⟩ := h
    exact ⟨a, dx, xs, e, s, d, r, o⟩
  · exact (show False from z).elim

/-! ### lists of things -/
theorem Reps.nil : Reps K H O [] [] := rfl
theorem Reps.cons {d : D} {v : V} {l : List D} {xs : List V} (h : Rep K H O d v) (t : Reps K H O l xs) : Reps K H O (d :: l) (v :: xs) := ⟨v, xs, rfl, h, t⟩
theorem Reps.length : ∀ {l : List D} {xs : List V}, Reps K H O l xs → l.length = xs.length
  | [], xs, h => by
    have h : xs = [] := h
    rw [h]; rfl
  | d :: ds, xs, h => by
    obtain ⟨x, r, e, _, h2⟩ : ∃ x r, xs = x :: r ∧ Rep K H O d x ∧ Reps K H O ds r := h
    rw [e, List.length_cons, List.length_cons, Reps.length h2]
theorem Reps.get : ∀ {l : List D} {xs : List V} {i : Nat} {d : D}, Reps K H O l xs → l[i]? = some d → ∃ x, xs[i]? = some x ∧ Rep K H O d x
  | [], xs, i, d, h, e => by simp at e
  | d :: ds, xs, i, d', h, e => by
    obtain ⟨x, r, e1, h1, h2⟩ : ∃ x r, xs = x :: r ∧ Rep K H O d x ∧ Reps K H O ds r := h
    subst e1
    cases i with
    | zero =>
      simp at e
      subst e
      exact ⟨x, rfl, h1⟩
    | succ i =>
      simp at e
      obtain ⟨y, q1, q2⟩ := Reps.get h2 e
      exact ⟨y, by simpa using q1, q2⟩
theorem Reps.getV {l : List D} {xs : List V} {i : Nat} {x : V} (h : Reps K H O l xs) (e : xs[i]? = some x) : ∃ d, l[i]? = some d ∧ Rep K H O d x := by
  have hl := h.length
  have hi : i < l.length := by rw [hl]; exact (List.getElem?_eq_some_iff.mp e).1
  obtain ⟨y, q1, q2⟩ := h.get (i := i) (d := l[i]) (by simp [hi])
  rw [e] at q1; cases q1
  exact ⟨_, by simp [hi], q2⟩
theorem Reps.append : ∀ {l m : List D} {xs ys : List V}, Reps K H O l xs → Reps K H O m ys → Reps K H O (l ++ m) (xs ++ ys)
  | [], m, xs, ys, h, q => by
    have h : xs = [] := h
    rw [h]; exact q
  | d :: ds, m, xs, ys, h, q => by
    obtain ⟨x, r, e1, h1, h2⟩ : ∃ x r, xs = x :: r ∧ Rep K H O d x ∧ Reps K H O ds r := h
    subst e1
    exact .cons h1 (Reps.append h2 q)
theorem Reps.take : ∀ (n : Nat) {l : List D} {xs : List V}, Reps K H O l xs → Reps K H O (l.take n) (xs.take n)
  | 0, _, _, _ => by simpa using (Reps.nil (K := K) (H := H) (O := O))
  | n + 1, [], xs, h => by
    have h : xs = [] := h
    rw [h]; exact Reps.nil
  | n + 1, d :: ds, xs, h => by
    obtain ⟨x, r, e1, h1, h2⟩ : ∃ x r, xs = x :: r ∧ Rep K H O d x ∧ Reps K H O ds r := h
    subst e1
    exact .cons h1 (Reps.take n h2)
theorem Reps.drop : ∀ (n : Nat) {l : List D} {xs : List V}, Reps K H O l xs → Reps K H O (l.drop n) (xs.drop n)
  | 0, _, _, h => h
  | n + 1, [], xs, h => by
    have h : xs = [] := h
    rw [h]; exact Reps.nil
  | n + 1, d :: ds, xs, h => by
    obtain ⟨x, r, e1, h1, h2⟩ : ∃ x r, xs = x :: r ∧ Rep K H O d x ∧ Reps K H O ds r := h
    subst e1
    exact Reps.drop n h2
theorem Reps.set : ∀ (n : Nat) {l : List D} {xs : List V} {d : D} {v : V}, Reps K H O l xs → Rep K H O d v → Reps K H O (l.set n d) (xs.set n v)
  | _, [], xs, _, _, h, _ => by
    have h : xs = [] := h
    rw [h]; exact Reps.nil
  | 0, d :: ds, xs, _, _, h, q => by
    obtain ⟨x, r, e1, h1, h2⟩ : ∃ x r, xs = x :: r ∧ Rep K H O d x ∧ Reps K H O ds r := h
    subst e1
    exact .cons q h2
  | n + 1, d :: ds, xs, _, _, h, q => by
    obtain ⟨x, r, e1, h1, h2⟩ : ∃ x r, xs = x :: r ∧ Rep K H O d x ∧ Reps K H O ds r := h
    subst e1
    exact .cons h1 (Reps.set n h2 q)
theorem Reps.cut {l : List D} {xs : List V} (h : Reps K H O l xs) (lo hi : Option Int) : Reps K H O (cutD l lo hi) (cutV xs lo hi) := by
  unfold cutD cutV
  rw [h.length]
  exact (h.drop _).take _
theorem Reps.ints : ∀ {l : List D} {xs : List V} {ns : List Int}, Reps K H O l xs → intsOf l = some ns → xs = ns.map V.int
  | [], xs, ns, h, e => by
    have h : xs = [] := h
    have e : some [] = some ns := e
    cases e
    rw [h]; rfl
  | d :: ds, xs, ns, h, e => by
    obtain ⟨x, r, e1, h1, h2⟩ : ∃ x r, xs = x :: r ∧ Rep K H O d x ∧ Reps K H O ds r := h
    subst e1
    cases d with
    | int i =>
      have h1 : x = .int i := h1
      subst h1
      have e : (intsOf ds).map (i :: ·) = some ns := e
      cases q : intsOf ds with
      | none => rw [q] at e; cases e
      | some m =>
        rw [q] at e
        have e : i :: m = ns := Option.some.inj e
        subst e
        rw [List.map_cons, Reps.ints h2 q]
    | _ => exact nomatch (show (none : Option (List Int)) = some ns from e)
theorem Reps.bools : ∀ {l : List D} {xs : List V} {ns : List Bool}, Reps K H O l xs → boolsOf l = some ns → xs = ns.map V.bl
  | [], xs, ns, h, e => by
    have h : xs = [] := h
    have e : some [] = some ns := e
    cases e
    rw [h]; rfl
  | d :: ds, xs, ns, h, e => by
    obtain ⟨x, r, e1, h1, h2⟩ : ∃ x r, xs = x :: r ∧ Rep K H O d x ∧ Reps K H O ds r := h
    subst e1
    cases d with
    | bl i =>
      have h1 : x = .bl i := h1
      subst h1
      have e : (boolsOf ds).map (i :: ·) = some ns := e
      cases q : boolsOf ds with
      | none => rw [q] at e; cases e
      | some m =>
        rw [q] at e
        have e : i :: m = ns := Option.some.inj e
        subst e
        rw [List.map_cons, Reps.bools h2 q]
    | _ => exact nomatch (show (none : Option (List Bool)) = some ns from e)
theorem Repk.length : ∀ {l : List (Key × D)} {xs : List (Key × V)}, Repk K H O l xs → l.length = xs.length
  | [], xs, h => by
    have h : xs = [] := h
    rw [h]; rfl
  | (k, d) :: ds, xs, h => by
    obtain ⟨x, r, e, _, h2⟩ : ∃ x r, xs = (k, x) :: r ∧ Rep K H O d x ∧ Repk K H O ds r := h
    rw [e, List.length_cons, List.length_cons, Repk.length h2]
theorem Repk.get {k : Key} : ∀ {l : List (Key × D)} {xs : List (Key × V)}, Repk K H O l xs → match kget l k with
    | some d => ∃ v, valV xs k = some v ∧ Rep K H O d v
    | none => valV xs k = none
  | [], xs, h => by
    have h : xs = [] := h
    subst h
    exact rfl
  | (k', d) :: ds, xs, h => by
    obtain ⟨x, r, e, h1, h2⟩ : ∃ x r, xs = (k', x) :: r ∧ Rep K H O d x ∧ Repk K H O ds r := h
    subst e
    by_cases z : k' = k
    · have e1 : kget ((k', d) :: ds) k = some d := by simp [kget, List.find?_cons, z]
      rw [e1]
      exact ⟨x, valV_pos z, h1⟩
    · have e1 : kget ((k', d) :: ds) k = kget ds k := by simp [kget, List.find?_cons, z]
      rw [e1, valV_neg z]
      exact Repk.get h2
theorem Repk.any {k : Key} : ∀ {l : List (Key × D)} {xs : List (Key × V)}, Repk K H O l xs → (l.any fun p => decide (p.1 = k)) = (xs.any fun p => decide (p.1 = k))
  | [], xs, h => by
    have h : xs = [] := h
    subst h
    rfl
  | (k', d) :: ds, xs, h => by
    obtain ⟨x, r, e, h1, h2⟩ : ∃ x r, xs = (k', x) :: r ∧ Rep K H O d x ∧ Repk K H O ds r := h
    subst e
    rw [List.any_cons, List.any_cons, Repk.any h2]
theorem Repk.map {k : Key} {d : D} {v : V} (hv : Rep K H O d v) : ∀ {l : List (Key × D)} {xs : List (Key × V)}, Repk K H O l xs → Repk K H O (l.map fun p => if p.1 = k then (p.1, d) else p) (xs.map fun p => if p.1 = k then (p.1, v) else p)
  | [], xs, h => by
    have h : xs = [] := h
    subst h
    exact rfl
  | (k', d') :: ds, xs, h => by
    obtain ⟨x, r, e, h1, h2⟩ : ∃ x r, xs = (k', x) :: r ∧ Rep K H O d' x ∧ Repk K H O ds r := h
    subst e
    rw [List.map_cons, List.map_cons]
    by_cases z : k' = k
    · rw [if_pos z, if_pos z]
      exact ⟨v, _, rfl, hv, Repk.map hv h2⟩
    · rw [if_neg z, if_neg z]
      exact ⟨x, _, rfl, h1, Repk.map hv h2⟩
theorem Repk.snoc {k : Key} {d : D} {v : V} (hv : Rep K H O d v) : ∀ {l : List (Key × D)} {xs : List (Key × V)}, Repk K H O l xs → Repk K H O (l ++ [(k, d)]) (xs ++ [(k, v)])
  | [], xs, h => by
    have h : xs = [] := h
    subst h
    exact ⟨v, [], rfl, hv, rfl⟩
  | (k', d') :: ds, xs, h => by
    obtain ⟨x, r, e, h1, h2⟩ : ∃ x r, xs = (k', x) :: r ∧ Rep K H O d' x ∧ Repk K H O ds r := h
    subst e
    exact ⟨x, _, rfl, h1, Repk.snoc hv h2⟩
theorem Repk.put {k : Key} {d : D} {v : V} {l : List (Key × D)} {xs : List (Key × V)} (h : Repk K H O l xs) (hv : Rep K H O d v) : Repk K H O (kput l k d) (putK xs k v) := by
  unfold kput putK
  rw [h.any]
  split
  · exact Repk.map hv h
  · exact Repk.snoc hv h
end

/-! ### the frame -/
section
variable (K : PySem.W.Frag) (H : Hp) (O : Addr → Prop) (σ : L2.St) (env : Env)
/-- a is the object of a slot that owns it -/
def Root (a : Addr) : Prop := ∃ (i : Nat) (d : D), (env[i]? = some (.own d) ∨ env[i]? = some (.ref d)) ∧ σ[i]? = some (some (.ref a))
structure EnvR : Prop where
  len : env.length = σ.length
  val : ∀ (i : Nat) (d : D), env[i]? = some (.val d) → ∃ v, σ[i]? = some (some v) ∧ Rep K H O d v
  own : ∀ (i : Nat) (d : D), (env[i]? = some (.own d) ∨ env[i]? = some (.ref d)) → ∃ a, σ[i]? = some (some (.ref a)) ∧ O a ∧ Shp K H O d a
  apart : ∀ (i j : Nat) (a : Addr) (d d' : D), (env[i]? = some (.own d) ∨ env[i]? = some (.ref d)) → (env[j]? = some (.own d') ∨ env[j]? = some (.ref d')) → σ[i]? = some (some (.ref a)) → σ[j]? = some (some (.ref a)) → i = j
  dom : Dm H O
/-- what a result stands for -/
def VdR (r : Vd) (v : V) : Prop := match r with
  | .fz d => Rep K H O d v
  | .fr d => ∃ a, v = .ref a ∧ O a ∧ ¬ Root σ env a ∧ Shp K H O d a
  | .bw i => σ[i]? = some (some v)
end
section
variable {K : PySem.W.Frag} {H H' H2 : Hp} {O O' O2 : Addr → Prop} {σ : L2.St} {env env' env2 : Env}
/-- behind a step; T: things that nobody else holds, which the step may use up -/
structure Post (K : PySem.W.Frag) (σ : L2.St) (T : Addr → Prop) (H : Hp) (O : Addr → Prop) (env : Env) (H' : Hp) (O' : Addr → Prop) (env' : Env) : Prop where
  ext : Ext (fun a => Root σ env a ∨ T a) H H'
  er : EnvR K H' O' σ env'
  new : ∀ a, O' a → O a ∨ H a = none
  hold : ∀ a, O a → ¬ Root σ env a → ¬ T a → O' a
  root : ∀ a, Root σ env' a → Root σ env a
  tO : ∀ a, T a → O a ∨ H a = none
  refs : ∀ i : Nat, (∃ d, env[i]? = some (Slot.ref d)) ↔ ∃ d, env'[i]? = some (Slot.ref d)
abbrev None0 : Addr → Prop := fun _ => False
theorem EnvR.rootO (e : EnvR K H O σ env) {a : Addr} (r : Root σ env a) : O a := by
  obtain ⟨i, d, h, hs⟩ := r
  obtain ⟨b, h1, h2, _⟩ := e.own i d h
  rw [hs] at h1; cases h1
  exact h2
variable {T T' : Addr → Prop}
theorem Post.refl (e : EnvR K H O σ env) : Post K σ None0 H O env H O env := ⟨Ext.refl, e, fun _ h => .inl h, fun _ h _ _ => h, fun _ h => h, fun _ h => h.elim, fun _ => Iff.rfl⟩
theorem Post.trans (a : Post K σ T H O env H' O' env') (b : Post K σ T' H' O' env' H2 O2 env2) : Post K σ (fun x => T x ∨ T' x) H O env H2 O2 env2 where
  ext := by
    refine ⟨fun x o e n t => ?_, fun x o e => ?_⟩
    · refine b.ext.keep x o (a.ext.keep x o e (fun z => n (z.elim .inl fun z => .inr (.inl z))) t) (fun z => n ?_) t
      exact z.elim (fun z => .inl (a.root x z)) fun z => .inr (.inr z)
    · obtain ⟨o1, e1⟩ := a.ext.dom x o e
      exact b.ext.dom x o1 e1
  er := b.er
  new := fun x z => by
    rcases b.new x z with z | z
    · exact a.new x z
    · exact .inr (a.ext.free z)
  hold := fun x z n t => b.hold x (a.hold x z n fun q => t (.inl q)) (fun q => n (a.root x q)) fun q => t (.inr q)
  root := fun x z => a.root x (b.root x z)
  tO := fun x z => by
    rcases z with z | z
    · exact a.tO x z
    · rcases b.tO x z with z | z
      · exact a.new x z
      · exact .inr (a.ext.free z)
  refs := fun i => (a.refs i).trans (b.refs i)
theorem Post.clean (p : Post K σ T H O env H' O' env') (e : EnvR K H O σ env) (h : ∀ a, T a → H a = none) : Post K σ None0 H O env H' O' env' where
  ext := ⟨fun x o q n t => p.ext.keep x o q (fun z => z.elim (fun z => n (.inl z)) (fun z => by rw [h x z] at q; cases q)) t, p.ext.dom⟩
  er := p.er
  new := p.new
  hold := fun a z n _ => p.hold a z n fun t => by
    obtain ⟨o, q, _⟩ := e.dom a z
    rw [h a t] at q; cases q
  root := p.root
  tO := fun _ z => z.elim
  refs := p.refs
theorem Post.then0 (a : Post K σ None0 H O env H' O' env') (b : Post K σ None0 H' O' env' H2 O2 env2) : Post K σ None0 H O env H2 O2 env2 := by
  have p := a.trans b
  exact ⟨p.ext.mono fun x z => z.elim .inl fun z => (z.elim id id).elim, p.er, p.new, fun x z n _ => p.hold x z n fun q => q.elim id id, p.root, fun _ z => z.elim, p.refs⟩
theorem Post.fz (p : Post K σ T H O env H' O' env') (e : EnvR K H O σ env) : Fz H O H' O' :=
  ⟨fun a o h n t => p.ext.keep a o h (fun z => z.elim (fun z => n (e.rootO z)) (fun z => (p.tO a z).elim n (fun q => by rw [h] at q; cases q))) t, p.new, p.ext.dom⟩
theorem Post.rep (p : Post K σ T H O env H' O' env') (e : EnvR K H O σ env) {d : D} {v : V} (h : Rep K H O d v) : Rep K H' O' d v := Rep.step (p.fz e) d v h
/-- the temporary thing of a result -/
def tmp : Vd → V → List Addr
  | .fr _, .ref a => [a]
  | _, _ => []
theorem Post.vd (p : Post K σ T H O env H' O' env') (e : EnvR K H O σ env) {r : Vd} {v : V} (h : VdR K H O σ env r v) (ht : ∀ a ∈ tmp r v, ¬ T a) : VdR K H' O' σ env' r v := by
  cases r with
  | fz d => exact p.rep e h
  | fr d =>
    obtain ⟨a, e1, e2, e3, e4⟩ := h
    subst e1
    have ta : ¬ T a := ht a (by simp [tmp])
    exact ⟨a, rfl, p.hold a e2 e3 ta, fun z => e3 (p.root a z), Shp.step (p.fz e) (fun o q t => p.ext.keep a o q (fun z => z.elim e3 ta) t) e4⟩
  | bw i => exact h
theorem VdR.now (e : EnvR K H O σ env) {r : Vd} {v : V} {d : D} (h : VdR K H O σ env r v) (hn : nowD env r = some d) : RdR K H O d v := by
  cases r with
  | fz d' => cases hn; exact .inl h
  | fr d' =>
    cases hn
    obtain ⟨a, e1, _, _, e4⟩ := h
    exact .inr ⟨a, e1, e4⟩
  | bw i =>
    have h : σ[i]? = some (some v) := h
    have hn : slotD env i = some d := hn
    unfold slotD at hn
    cases q : env[i]? with
    | none => rw [q] at hn; cases hn
    | some s =>
      rw [q] at hn
      cases s with
      | no => cases hn
      | val d' =>
        cases hn
        obtain ⟨v', e1, e2⟩ := e.val i _ q
        rw [h] at e1; cases e1
        exact .inl e2
      | own d' =>
        cases hn
        obtain ⟨a, e1, _, e3⟩ := e.own i _ (.inl q)
        rw [h] at e1; cases e1
        exact .inr ⟨a, rfl, e3⟩
      | ref d' =>
        cases hn
        obtain ⟨a, e1, _, e3⟩ := e.own i _ (.inr q)
        rw [h] at e1; cases e1
        exact .inr ⟨a, rfl, e3⟩
/-- the heap grows, nothing else -/
theorem EnvR.grow (e : EnvR K H O σ env) (hk : ∀ a o, H a = some o → H' a = some o) : EnvR K H' O σ env := by
  have f : Fz H O H' O := ⟨fun a o h _ _ => hk a o h, fun _ h => .inl h, fun a o h => ⟨o, hk a o h⟩⟩
  refine ⟨e.len, fun i d h => ?_, fun i d h => ?_, e.apart, ⟨fun a h => ?_, e.dom.tb.ext hk, e.dom.sm.ext hk⟩⟩
  · obtain ⟨v, h1, h2⟩ := e.val i d h
    exact ⟨v, h1, Rep.step f d v h2⟩
  · obtain ⟨a, h1, h2, h3⟩ := e.own i d h
    exact ⟨a, h1, h2, h3.step f fun o q _ => hk a o q⟩
  · obtain ⟨o, h, hn⟩ := e.dom a h
    exact ⟨o, hk a o h, hn⟩
theorem Post.grow (e : EnvR K H O σ env) (hk : ∀ a o, H a = some o → H' a = some o) : Post K σ None0 H O env H' O env :=
  ⟨⟨fun a o h _ _ => hk a o h, fun a o h => ⟨o, hk a o h⟩⟩, e.grow hk, fun _ h => .inl h, fun _ h _ _ => h, fun _ h => h, fun _ h => h.elim, fun _ => Iff.rfl⟩
theorem grow_new {p : Addr} {o : HO} (h : H p = none) : ∀ a u, H a = some u → upd H p o a = some u := fun a u e => by rw [upd_ne (ne_of_none e h)]; exact e
/-- a new owner -/
theorem EnvR.more (e : EnvR K H O σ env) {p : Addr} (hk : ∀ a o, H a = some o → H' a = some o) (hp : H p = none) (hp' : Has H' p) : EnvR K H' (fun a => a = p ∨ O a) σ env := by
  have f : Fz H O H' (fun a => a = p ∨ O a) := ⟨fun a o h _ _ => hk a o h, fun a h => h.elim (fun z => .inr (by rw [z]; exact hp)) .inl, fun a o h => ⟨o, hk a o h⟩⟩
  refine ⟨e.len, fun i d h => ?_, fun i d h => ?_, e.apart, ⟨fun a h => ?_, e.dom.tb.ext hk, e.dom.sm.ext hk⟩⟩
  · obtain ⟨v, h1, h2⟩ := e.val i d h
    exact ⟨v, h1, Rep.step f d v h2⟩
  · obtain ⟨a, h1, h2, h3⟩ := e.own i d h
    exact ⟨a, h1, .inr h2, h3.step f fun o q _ => hk a o q⟩
  · rcases h with h | h
    · rw [h]; exact hp'
    · obtain ⟨o, h, hn⟩ := e.dom a h
      exact ⟨o, hk a o h, hn⟩
theorem Post.more (e : EnvR K H O σ env) {p : Addr} (hk : ∀ a o, H a = some o → H' a = some o) (hp : H p = none) (hp' : Has H' p) : Post K σ None0 H O env H' (fun a => a = p ∨ O a) env :=
  ⟨⟨fun a o h _ _ => hk a o h, fun a o h => ⟨o, hk a o h⟩⟩, e.more hk hp hp', fun a h => h.elim (fun z => .inr (by rw [z]; exact hp)) .inl, fun _ h _ _ => .inr h, fun _ h => h, fun _ h => h.elim, fun _ => Iff.rfl⟩
theorem EnvR.notRoot (e : EnvR K H O σ env) {p : Addr} (hp : H p = none) : ¬ Root σ env p := fun z => by
  obtain ⟨o, h, _⟩ := e.dom p (e.rootO z)
  rw [hp] at h; cases h

/-! ### a result is stored elsewhere -/
theorem EnvR.less (e : EnvR K H O σ env) {p : Addr} (hp : ¬ Root σ env p) : EnvR K H (fun a => O a ∧ a ≠ p) σ env := by
  have f : Fz H O H (fun a => O a ∧ a ≠ p) := ⟨fun a o h _ _ => h, fun a h => .inl h.1, fun a o h => ⟨o, h⟩⟩
  refine ⟨e.len, fun i d h => ?_, fun i d h => ?_, e.apart, ⟨fun a h => e.dom a h.1, e.dom.tb, e.dom.sm⟩⟩
  · obtain ⟨v, h1, h2⟩ := e.val i d h
    exact ⟨v, h1, Rep.step f d v h2⟩
  · obtain ⟨a, h1, h2, h3⟩ := e.own i d h
    exact ⟨a, h1, ⟨h2, fun z => hp ⟨i, d, h, by rw [← z]; exact h1⟩⟩, h3.step f fun o q _ => q⟩
theorem set_get {s : Slot} {i j : Nat} {x : Slot} (h : (env.set i s)[j]? = some x) : (j = i ∧ x = s) ∨ (j ≠ i ∧ env[j]? = some x) := by
  by_cases q : j = i
  · subst q
    by_cases hl : j < env.length
    · rw [List.getElem?_set_self hl] at h
      exact .inl ⟨rfl, (Option.some.inj h).symm⟩
    · rw [List.getElem?_eq_none (by simpa using hl)] at h; cases h
  · rw [List.getElem?_set_ne (Ne.symm q)] at h
    exact .inr ⟨q, h⟩
/-- a slot gives its thing up -/
theorem Post.freeze (e : EnvR K H O σ env) {i : Nat} {d : D} (hi : env[i]? = some (.own d)) {a : Addr} (ha : σ[i]? = some (some (.ref a))) :
    Post K σ None0 H O env H (fun x => O x ∧ x ≠ a) (env.set i (.val d)) ∧ Rep K H (fun x => O x ∧ x ≠ a) d (.ref a) := by
  obtain ⟨a', h1, hO, hS⟩ := e.own i d (.inl hi)
  rw [ha] at h1; cases h1
  have f : Fz H O H (fun x => O x ∧ x ≠ a) := ⟨fun x o h _ _ => h, fun x h => .inl h.1, fun a o h => ⟨o, h⟩⟩
  have hR : Rep K H (fun x => O x ∧ x ≠ a) d (.ref a) := (hS.step f fun o q _ => q).rep fun z => z.2 rfl
  have ow : ∀ (j : Nat) (d' : D), ((env.set i (.val d))[j]? = some (.own d') ∨ (env.set i (.val d))[j]? = some (.ref d')) → j ≠ i ∧ (env[j]? = some (.own d') ∨ env[j]? = some (.ref d')) := fun j d' h => by
    rcases h with h | h
    · rcases set_get h with ⟨_, z⟩ | ⟨z, q⟩
      · cases z
      · exact ⟨z, .inl q⟩
    · rcases set_get h with ⟨_, z⟩ | ⟨z, q⟩
      · cases z
      · exact ⟨z, .inr q⟩
  refine ⟨⟨Ext.refl, ⟨by rw [List.length_set]; exact e.len, fun j d' h => ?_, fun j d' h => ?_, fun j k b d1 d2 h1 h2 => e.apart j k b d1 d2 (ow j d1 h1).2 (ow k d2 h2).2, ⟨fun x h => e.dom x h.1, e.dom.tb, e.dom.sm⟩⟩, fun x h => .inl h.1, fun x h n _ => ⟨h, fun z => n ⟨i, d, .inl hi, by rw [z]; exact ha⟩⟩, fun x ⟨j, d', h, hs⟩ => ⟨j, d', (ow j d' h).2, hs⟩, fun _ z => z.elim, fun j => ?_⟩, hR⟩
  · rcases set_get h with ⟨z, q⟩ | ⟨z, q⟩
    · cases q
      rw [z]
      exact ⟨_, ha, hR⟩
    · obtain ⟨v, h1, h2⟩ := e.val j d' q
      exact ⟨v, h1, Rep.step f d' v h2⟩
  · obtain ⟨z, q⟩ := ow j d' h
    obtain ⟨b, h1, h2, h3⟩ := e.own j d' q
    exact ⟨b, h1, ⟨h2, fun y => z (e.apart j i a d' d q (.inl hi) (by rw [← y]; exact h1) ha)⟩, h3.step f fun o q _ => q⟩
  · by_cases z : j = i
    · subst z
      refine ⟨fun ⟨d', h⟩ => ?_, fun ⟨d', h⟩ => ?_⟩
      · rw [hi] at h; cases h
      · rcases set_get h with ⟨_, z⟩ | ⟨z, _⟩
        · cases z
        · exact absurd rfl z
    · rw [List.getElem?_set_ne (Ne.symm z)]
theorem Post.take (e : EnvR K H O σ env) {r : Vd} {v : V} {d : D} (h : VdR K H O σ env r v) (ht : takeD r env = some (d, env')) : ∃ O', Post K σ (fun a => a ∈ tmp r v) H O env H O' env' ∧ Rep K H O' d v := by
  cases r with
  | fz d' =>
    cases ht
    have p := Post.refl e
    exact ⟨O, ⟨Ext.refl, e, p.new, fun x q _ _ => q, p.root, fun x q => (nomatch q), fun _ => Iff.rfl⟩, h⟩
  | fr d' =>
    cases ht
    obtain ⟨a, e1, e2, e3, e4⟩ := h
    subst e1
    have f : Fz H O H (fun x => O x ∧ x ≠ a) := ⟨fun x o h _ _ => h, fun x h => .inl h.1, fun a o h => ⟨o, h⟩⟩
    exact ⟨fun x => O x ∧ x ≠ a, ⟨Ext.refl, e.less e3, fun x q => .inl q.1, fun x q _ t => ⟨q, fun z => t (by simp [tmp, z])⟩, fun x q => q, fun x q => .inl (by
      have z : x = a := by simpa [tmp] using q
      rw [z]; exact e2), fun _ => Iff.rfl⟩, (e4.step f fun o q _ => q).rep fun z => z.2 rfl⟩
  | bw i =>
    have h : σ[i]? = some (some v) := h
    have ht : (match env[i]? with
      | some (.own d) => some (d, env.set i (.val d))
      | some (.val d) => some (d, env)
      | _ => none) = some (d, env') := ht
    cases q : env[i]? with
    | none => rw [q] at ht; cases ht
    | some s =>
      rw [q] at ht
      cases s with
      | no => cases ht
      | ref d' => cases ht
      | val d' =>
        cases ht
        obtain ⟨v', h1, h2⟩ := e.val i d q
        rw [h] at h1; cases h1
        have p := Post.refl e
        exact ⟨O, ⟨Ext.refl, e, p.new, fun x q _ _ => q, p.root, fun x q => (nomatch q), fun _ => Iff.rfl⟩, h2⟩
      | own d' =>
        cases ht
        obtain ⟨a, h1, _, _⟩ := e.own i d (.inl q)
        rw [h] at h1; cases h1
        obtain ⟨p, hR⟩ := Post.freeze e q h
        exact ⟨_, ⟨Ext.refl, p.er, p.new, fun x q n _ => p.hold x q n id, p.root, fun x q => (nomatch q), p.refs⟩, hR⟩

/-! ### several results -/
def VdRs (K : PySem.W.Frag) (H : Hp) (O : Addr → Prop) (σ : L2.St) (env : Env) : List Vd → List V → Prop
  | [], [] => True
  | r :: rs, v :: vs => VdR K H O σ env r v ∧ VdRs K H O σ env rs vs
  | _, _ => False
def tmps : List Vd → List V → List Addr
  | r :: rs, v :: vs => tmp r v ++ tmps rs vs
  | _, _ => []
theorem Post.vds (p : Post K σ T H O env H' O' env') (e : EnvR K H O σ env) : ∀ {rs : List Vd} {vs : List V}, VdRs K H O σ env rs vs → (∀ a ∈ tmps rs vs, ¬ T a) → VdRs K H' O' σ env' rs vs
  | [], [], _, _ => trivial
  | [], _ :: _, h, _ => h
  | _ :: _, [], h, _ => h
  | r :: rs, v :: vs, h, ht => ⟨p.vd e h.1 fun a ha => ht a (List.mem_append_left _ ha), Post.vds p e h.2 fun a ha => ht a (List.mem_append_right _ ha)⟩
theorem VdRs.length : ∀ {rs : List Vd} {vs : List V}, VdRs K H O σ env rs vs → rs.length = vs.length
  | [], [], _ => rfl
  | [], _ :: _, h => h.elim
  | _ :: _, [], h => h.elim
  | r :: rs, v :: vs, h => by rw [List.length_cons, List.length_cons, VdRs.length h.2]
theorem VdR.tmpO (h : VdR K H O σ env r v) : ∀ a ∈ tmp r v, O a := by
  intro a ha
  cases r with
  | fr d =>
    obtain ⟨b, e1, e2, _⟩ := h
    subst e1
    have z : a = b := by simpa [tmp] using ha
    rw [z]; exact e2
  | fz d => cases v <;> exact nomatch ha
  | bw d => cases v <;> exact nomatch ha
theorem VdRs.tmpO : ∀ {rs : List Vd} {vs : List V}, VdRs K H O σ env rs vs → ∀ a ∈ tmps rs vs, O a
  | [], [], _, a, ha => nomatch ha
  | [], _ :: _, h, _, _ => h.elim
  | _ :: _, [], h, _, _ => h.elim
  | r :: rs, v :: vs, h, a, ha => (List.mem_append.mp ha).elim (fun z => VdR.tmpO h.1 a z) fun z => VdRs.tmpO h.2 a z
def RdRs (K : PySem.W.Frag) (H : Hp) (O : Addr → Prop) : List D → List V → Prop
  | [], [] => True
  | d :: ds, v :: vs => RdR K H O d v ∧ RdRs K H O ds vs
  | _, _ => False
theorem VdRs.now (e : EnvR K H O σ env) : ∀ {rs : List Vd} {vs : List V} {ds : List D}, VdRs K H O σ env rs vs → nowDs env rs = some ds → RdRs K H O ds vs
  | [], [], ds, _, hn => by
    have hn : some [] = some ds := hn
    cases hn
    trivial
  | [], _ :: _, _, h, _ => h.elim
  | _ :: _, [], _, h, _ => h.elim
  | r :: rs, v :: vs, ds, h, hn => by
    have hn : (match nowD env r, nowDs env rs with
      | some d, some ds => some (d :: ds)
      | _, _ => none) = some ds := hn
    cases q1 : nowD env r with
    | none => rw [q1] at hn; cases hn
    | some d =>
      cases q2 : nowDs env rs with
      | none => rw [q1, q2] at hn; cases hn
      | some ds' =>
        rw [q1, q2] at hn
        have hn : d :: ds' = ds := Option.some.inj hn
        subst hn
        exact ⟨VdR.now e h.1 q1, VdRs.now e h.2 q2⟩
theorem Post.takes : ∀ {rs : List Vd} {vs : List V} {ds : List D} {O : Addr → Prop} {env env' : Env}, EnvR K H O σ env → VdRs K H O σ env rs vs → (tmps rs vs).Nodup → takeDs rs env = some (ds, env') → ∃ O', Post K σ (fun a => a ∈ tmps rs vs) H O env H O' env' ∧ Reps K H O' ds vs
  | [], [], ds, O, env, env', e, _, _, ht => by
    have ht : some ([], env) = some (ds, env') := ht
    cases ht
    exact ⟨O, ⟨Ext.refl, e, fun _ h => .inl h, fun x q _ _ => q, fun x q => q, fun x q => (nomatch q), fun _ => Iff.rfl⟩, rfl⟩
  | [], _ :: _, _, _, _, _, _, h, _, _ => h.elim
  | _ :: _, [], _, _, _, _, _, h, _, _ => h.elim
  | r :: rs, v :: vs, ds, O, env, env', e, h, nd, ht => by
    have ht : (match takeD r env with
      | some (d, env) => (match takeDs rs env with
        | some (ds, env) => some (d :: ds, env)
        | none => none)
      | none => none) = some (ds, env') := ht
    cases q1 : takeD r env with
    | none => rw [q1] at ht; cases ht
    | some p =>
      obtain ⟨d, env1⟩ := p
      rw [q1] at ht
      cases q2 : takeDs rs env1 with
      | none =>
        simp only [q2] at ht
        cases ht
      | some p =>
        obtain ⟨ds1, env2⟩ := p
        simp only [q2] at ht
        cases ht
        obtain ⟨O1, p1, r1⟩ := Post.take e h.1 q1
        have nd' := List.nodup_append.mp nd
        obtain ⟨O2, p2, r2⟩ := Post.takes p1.er (Post.vds p1 e h.2 fun a ha hb => (nd'.2.2 a hb a ha) rfl) nd'.2.1 q2
        have p := p1.trans p2
        refine ⟨O2, ⟨p.ext.mono fun x z => z.elim .inl fun z => .inr (List.mem_append.mpr z), p.er, p.new, fun x z n t => p.hold x z n fun q => t (List.mem_append.mpr q), p.root, fun x z => p.tO x (List.mem_append.mp z), p.refs⟩, ?_⟩
        exact .cons (p2.rep p1.er r1) r2
end
end PB

/-! PBc -/
/-! PB, part C: the evaluator's expressions, kept by the model. -/
namespace PB
open PySem L2
variable [Tb]

/-! ### the strongest readings -/
section
variable (X : Cx)
def TM (e : Expr) (σ : L2.St) (H : Hp) (Q : VK) : Prop := ∀ (pins : List (Addr × Obj)) (s : Shared), Inv X pins σ H s → wpAny (model X.prog X.w) X.A (eval e X.env) (EP X pins σ Q) X.xe s
def TMt (e : Expr) (σ : L2.St) (H : Hp) (Q : Bool → Hp → Prop) : Prop := ∀ (pins : List (Addr × Obj)) (s : Shared), Inv X pins σ H s → wpAny (model X.prog X.w) X.A (isTrue e X.env (eval e X.env)) (TP X pins σ Q) X.xe s
def TMw (e : Expr) (σ : L2.St) (H : Hp) (Q : Bool → Hp → Prop) : Prop := ∀ (wh : Sem Value) (pins : List (Addr × Obj)) (s : Shared), Inv X pins σ H s → wpAny (model X.prog X.w) X.A (isTrue e X.env wh) (TP X pins σ Q) X.xe s
def TMa (es : List Expr) (σ : L2.St) (H : Hp) (Q : List V → Hp → Prop) : Prop := ∀ (pos : Pos) (pins : List (Addr × Obj)) (s : Shared), Inv X pins σ H s → wpAny (model X.prog X.w) X.A (spliced (backTo pos (starEach es X.env))) (AP X pins σ Q) X.xe s
end
section
variable {X : Cx}
theorem peM (e : Expr) : PE X e (TM X e) := ⟨fun pins s _ _ _ I h => h pins s I⟩
theorem ptM (e : Expr) : PT X e (TMt X e) := ⟨fun pins s _ _ _ I h => h pins s I⟩
theorem pwM (e : Expr) : PW X e (TMw X e) := ⟨fun wh pins s _ _ _ I h => h wh pins s I⟩
theorem paM (es : List Expr) : PA X es (TMa X es) := ⟨fun pos pins s _ _ _ I h => h pos pins s I⟩
theorem TM.of {e : Expr} {t : TE} {σ : L2.St} {H : Hp} {Q : VK} (h : PE X e t) (q : t σ H Q) : TM X e σ H Q := fun pins s I => h.run pins s σ H Q I q
theorem TMt.of {e : Expr} {t : TT} {σ : L2.St} {H : Hp} {Q : Bool → Hp → Prop} (h : PT X e t) (q : t σ H Q) : TMt X e σ H Q := fun pins s I => h.run pins s σ H Q I q
theorem TMw.of {e : Expr} {t : TT} {σ : L2.St} {H : Hp} {Q : Bool → Hp → Prop} (h : PW X e t) (q : t σ H Q) : TMw X e σ H Q := fun wh pins s I => h.run wh pins s σ H Q I q
theorem TMa.of {es : List Expr} {t : TA} {σ : L2.St} {H : Hp} {Q : List V → Hp → Prop} (h : PA X es t) (q : t σ H Q) : TMa X es σ H Q := fun pos pins s I => h.run pos pins s σ H Q I q
theorem TMw.t {e : Expr} {σ : L2.St} {H : Hp} {Q : Bool → Hp → Prop} (h : TMw X e σ H Q) : TMt X e σ H Q := fun pins s I => h _ pins s I
end

/-! ### outcomes -/
def Out {A : Type} (r : Res A) (P : A → Env → Prop) (E : D → Env → Prop) : Prop := match r with
  | .ok a e => P a e
  | .exc x e => E x e
  | .err => False
section
variable {A B : Type} {P P' : A → Env → Prop} {E E' : D → Env → Prop}
theorem Out.bind {r : Res A} {f : A → Env → Res B} {Q : B → Env → Prop} (h : Out (r.bind f) Q E) : Out r (fun a e => Out (f a e) Q E) E := by
  cases r with
  | ok a e => exact h
  | exc x e => exact h
  | err => exact h
theorem Out.mono {r : Res A} (h : Out r P E) (p : ∀ a e, r = .ok a e → P a e → P' a e) (q : ∀ x e, E x e → E' x e) : Out r P' E' := by
  cases r with
  | ok a e => exact p a e rfl h
  | exc x e => exact q x e h
  | err => exact h
theorem Out.opt {o : Option A} {env : Env} (h : Out (optR o env) P E) : ∃ a, o = some a ∧ P a env := by
  cases o with
  | none => exact (show False from h).elim
  | some a => exact ⟨a, rfl, h⟩
end

/-- what of the text the defs stand for: the classes of errors by their numbers -/
structure Glob where
  one : Unit

/-- an error on its way -/
def ExcR (G : Glob) (K : PySem.W.Frag) (H : Hp) (O : Addr → Prop) (x : D) (cls : Value) (d : Option Addr) : Prop :=
  ∃ c fs a xs, x = .exc c fs ∧ cls = .ref (He.ga K c) ∧ d = some a ∧ H a = some (.xd xs) ∧ ¬ O a ∧ Repf K H O fs xs ∧ XoOk K c fs

structure RPost (K : PySem.W.Frag) (σ : L2.St) (H : Hp) (O : Addr → Prop) (env : Env) (H' : Hp) (O' : Addr → Prop) (env' : Env) (r : Vd) (v : V) : Prop where
  p : Post K σ None0 H O env H' O' env'
  vr : VdR K H' O' σ env' r v
  t : ∀ a ∈ tmp r v, H a = none
structure RPosts (K : PySem.W.Frag) (σ : L2.St) (H : Hp) (O : Addr → Prop) (env : Env) (H' : Hp) (O' : Addr → Prop) (env' : Env) (rs : List Vd) (vs : List V) : Prop where
  p : Post K σ None0 H O env H' O' env'
  vr : VdRs K H' O' σ env' rs vs
  nd : (tmps rs vs).Nodup
  t : ∀ a ∈ tmps rs vs, H a = none
structure XPost (G : Glob) (K : PySem.W.Frag) (σ : L2.St) (H : Hp) (O : Addr → Prop) (env : Env) (H' : Hp) (O' : Addr → Prop) (env' : Env) (x : D) (cls : Value) (d : Option Addr) : Prop where
  p : Post K σ None0 H O env H' O' env'
  x : ExcR G K H' O' x cls d

section
variable (G : Glob) (X : Cx) (C : Callee) (fns : List Fn)
abbrev WOut {A : Type} (W : WX) (σ : L2.St) (H : Hp) (O : Addr → Prop) (env : Env) (r : Res A) (P : A → Env → Prop) : Prop :=
  Out r P (fun x env' => ∀ cls d H' O', XPost G X.K σ H O env H' O' env' x cls d → W cls d σ H')
def SE (e : Expr) (ir : E) : Prop := ∀ (σ : L2.St) (H : Hp) (O : Addr → Prop) (env : Env) (Q : VK) (W : WX), Takes X W → EnvR X.K H O σ env →
  WOut G X W σ H O env (evE C fns ir env) (fun r env' => ∀ v H' O', RPost X.K σ H O env H' O' env' r v → Q v H') → TM X e σ H Q
def evB (ir : E) (env : Env) : Res Bool := (evE C fns ir env).bind fun x env => boolV x env
def ST (e : Expr) (ir : E) : Prop := ∀ (σ : L2.St) (H : Hp) (O : Addr → Prop) (env : Env) (Q : Bool → Hp → Prop) (W : WX), Takes X W → EnvR X.K H O σ env →
  WOut G X W σ H O env (evB C fns ir env) (fun b env' => ∀ H' O', Post X.K σ None0 H O env H' O' env' → Q b H') → TMt X e σ H Q
def SA (es : List Expr) (irs : List E) : Prop := ∀ (σ : L2.St) (H : Hp) (O : Addr → Prop) (env : Env) (Q : List V → Hp → Prop) (W : WX), Takes X W → EnvR X.K H O σ env →
  WOut G X W σ H O env (evEs C fns irs env) (fun rs env' => ∀ vs H' O', RPosts X.K σ H O env H' O' env' rs vs → Q vs H') → TMa X es σ H Q
end

section
variable {G : Glob} {X : Cx} {C : Callee} {fns : List Fn} {σ : L2.St} {H H' : Hp} {O O' : Addr → Prop} {env env' : Env} {W : WX}
/-- an error behind a step is an error of the whole -/
theorem WOut.behind {A : Type} {r : Res A} {P P' : A → Env → Prop} (p : Post X.K σ None0 H O env H' O' env') (h : WOut G X W σ H O env r P) (q : ∀ a e, r = .ok a e → P a e → P' a e) : WOut G X W σ H' O' env' r P' :=
  Out.mono h q fun x e k cls d H2 O2 xp => k cls d H2 O2 ⟨p.then0 xp.p, xp.x⟩
theorem RPost.more {H2 : Hp} {O2 : Addr → Prop} {env2 : Env} {r : Vd} {v : V} (p : Post X.K σ None0 H O env H' O' env') (q : RPost X.K σ H' O' env' H2 O2 env2 r v) : RPost X.K σ H O env H2 O2 env2 r v :=
  ⟨p.then0 q.p, q.vr, fun a ha => p.ext.free (q.t a ha)⟩
theorem RPosts.more {H2 : Hp} {O2 : Addr → Prop} {env2 : Env} {r : List Vd} {v : List V} (p : Post X.K σ None0 H O env H' O' env') (q : RPosts X.K σ H' O' env' H2 O2 env2 r v) : RPosts X.K σ H O env H2 O2 env2 r v :=
  ⟨p.then0 q.p, q.vr, q.nd, fun a ha => p.ext.free (q.t a ha)⟩
theorem tmp_fz {d : D} {v : V} : tmp (.fz d) v = [] := by cases v <;> rfl
theorem tmp_bw {i : Nat} {v : V} : tmp (.bw i) v = [] := by cases v <;> rfl
/-- a frozen result without a change -/
theorem RPost.here {d : D} {v : V} (e : EnvR X.K H O σ env) (h : Rep X.K H O d v) : RPost X.K σ H O env H O env (.fz d) v := ⟨Post.refl e, h, fun a ha => by rw [tmp_fz] at ha; exact nomatch ha⟩
/-- .. the heap has grown -/
theorem RPost.grow {d : D} {v : V} (e : EnvR X.K H O σ env) (hk : ∀ a o, H a = some o → H' a = some o) (h : Rep X.K H' O d v) : RPost X.K σ H O env H' O env (.fz d) v := ⟨Post.grow e hk, h, fun a ha => by rw [tmp_fz] at ha; exact nomatch ha⟩
/-- .. a new thing -/
theorem RPost.fresh {d : D} {p : Addr} {o : HO} (e : EnvR X.K H O σ env) (hp : H p = none) (h : ∀ H' O', Fz H O H' O' → H' p = some o → Shp X.K H' O' d p) : RPost X.K σ H O env (upd H p o) (fun a => a = p ∨ O a) env (.fr d) (.ref p) := by
  have hk := grow_new (o := o) hp
  have sh := h (upd H p o) (fun a => a = p ∨ O a) ⟨fun a u q _ _ => hk a u q, fun a z => z.elim (fun z => .inr (by rw [z]; exact hp)) .inl, fun a o h => ⟨o, hk a o h⟩⟩ upd_same
  refine ⟨Post.more e hk hp sh.has, ⟨p, rfl, .inl rfl, e.notRoot hp, sh⟩, fun a ha => ?_⟩
  have z : a = p := by simpa [tmp] using ha
  rw [z]; exact hp
theorem fz_grow (hk : ∀ a o, H a = some o → H' a = some o) : Fz H O H' O := ⟨fun a o h _ _ => hk a o h, fun _ h => .inl h, fun a o h => ⟨o, hk a o h⟩⟩

/-! ### names and constants -/
theorem se_var {x : Str} {pos : Pos} {i : Nat} (hN : X.N[i]? = some x) (hv : Vis X.env.scope x) (h1 : (x == ("__debug__" : Str)) = false) (h2 : (x == ("__classdict__" : Str)) = false) : SE G X C fns (.Name x pos) (.var i) := by
  intro σ H O env Q W tk e h
  refine TM.of (pe_var hN hv h1 h2) ?_
  simp only [evE] at h
  cases q : env[i]? with
  | none => rw [q] at h; exact (show False from h).elim
  | some s =>
    rw [q] at h
    cases s with
    | no => exact (show False from h).elim
    | val d =>
      obtain ⟨v, hv, hr⟩ := e.val i d q
      exact ⟨v, hv, h v H O (RPost.here e hr)⟩
    | own d =>
      obtain ⟨a, ha, _⟩ := e.own i d (.inl q)
      exact ⟨_, ha, h _ H O ⟨Post.refl e, ha, fun a ha => by rw [tmp_bw] at ha; exact nomatch ha⟩⟩
    | ref d =>
      obtain ⟨a, ha, _⟩ := e.own i d (.inr q)
      exact ⟨_, ha, h _ H O ⟨Post.refl e, ha, fun a ha => by rw [tmp_bw] at ha; exact nomatch ha⟩⟩
/-- scalars as values -/
def scV : D → Option V
  | .non => some .non
  | .bl b => some (.bl b)
  | .int i => some (.int i)
  | .str s => some (.str s)
  | _ => none
theorem scV_rep {K : PySem.W.Frag} {d : D} {v : V} (h : scV d = some v) : Rep K H O d v := by
  cases d <;> first | (cases h; exact rfl) | cases h
theorem se_lit {e : Expr} {d : D} {v : V} (hd : scV d = some v) (h : PE X e (tC v)) : SE G X C fns e (.lit d) := fun σ H O env Q W tk er q => TM.of h (q v H O (RPost.here er (scV_rep hd)))

/-! ### operators -/
theorem se_bin2 {a b : Expr} {ia ib : E} {r : R2} (F : Vd → Vd → Env → Res Vd) (ha : SE G X C fns a ia) (hb : SE G X C fns b ib)
    (hF : ∀ σ H O env x y vx vy Q, EnvR X.K H O σ env → VdR X.K H O σ env x vx → VdR X.K H O σ env y vy → Out (F x y env) (fun r env' => ∀ v H' O', RPost X.K σ H O env H' O' env' r v → Q v H') (fun _ _ => True) → r vx vy H Q) :
    ∀ (σ : L2.St) (H : Hp) (O : Addr → Prop) (env : Env) (Q : VK) (W : WX), Takes X W → EnvR X.K H O σ env →
      WOut G X W σ H O env ((evE C fns ia env).bind fun x env => (evE C fns ib env).bind fun y env => F x y env) (fun r env' => ∀ v H' O', RPost X.K σ H O env H' O' env' r v → Q v H') → tOp r (TM X a) (TM X b) σ H Q := by
  intro σ H O env Q W tk er h
  refine ha σ H O env _ W tk er (Out.mono h.bind (fun x env1 _ h1 v H1 O1 p1 => ?_) fun x e k => k)
  have er1 := p1.p.er
  refine hb σ H1 O1 env1 _ W tk er1 (WOut.behind p1.p h1.bind fun y env2 _ h2 vy H2 O2 p2 => ?_)
  have vx := p2.p.vd er1 p1.vr fun a _ z => z
  refine hF σ H2 O2 env2 x y v vy Q p2.p.er vx p2.vr (Out.mono h2 (fun r env3 _ h3 vr H3 O3 p3 => h3 vr H3 O3 (RPost.more (p1.p.then0 p2.p) p3)) fun z e k => trivial)

/-! ### operations on values by data -/
/-- what is wanted of an operation's result -/
def ResQ (K : PySem.W.Frag) (H : Hp) (O : Addr → Prop) (r : Bool × D) (Q : VK) : Prop := match r with
  | (false, d) => ∀ v H', (∀ a o, H a = some o → H' a = some o) → Rep K H' O d v → Q v H'
  | (true, d) => ∀ p o, H p = none → (∀ H' O', Fz H O H' O' → H' p = some o → Shp K H' O' d p) → Q (.ref p) (upd H p o)
theorem ResQ.here {K : PySem.W.Frag} {d : D} {v : V} {Q : VK} (h : ResQ K H O (false, d) Q) (r : Rep K H O d v) : Q v H := h v H (fun _ _ q => q) r
theorem ResQ.sc {K : PySem.W.Frag} {d : D} {v : V} {Q : VK} (h : ResQ K H O (false, d) Q) (r : scV d = some v) : Q v H := h.here (scV_rep r)
theorem ResQ.tup {K : PySem.W.Frag} {l : List D} {xs : List V} {Q : VK} {p : Addr} (h : ResQ K H O (false, .tup l) Q) (dom : ∀ a, O a → Has H a) (hp : H p = none) (r : Reps K H O l xs) : Q (.ref p) (upd H p (.tup xs)) := by
  have hk := grow_new (o := .tup xs) hp
  refine h _ _ hk ⟨p, xs, rfl, fun z => ?_, upd_same, r.step (fz_grow hk)⟩
  obtain ⟨o, q, _⟩ := dom p z
  rw [hp] at q; cases q
theorem ResQ.lst {K : PySem.W.Frag} {l : List D} {xs : List V} {Q : VK} {p : Addr} (h : ResQ K H O (true, .lst l) Q) (hp : H p = none) (r : Reps K H O l xs) : Q (.ref p) (upd H p (.lst xs)) :=
  h p (.lst xs) hp fun _ _ f q => ⟨xs, q, r.step f⟩
/-- the result as the evaluator tells it -/
theorem ResQ.of {r : Bool × D} {Q : VK} (e : EnvR X.K H O σ env) (h : ∀ v H' O', RPost X.K σ H O env H' O' env (vdR r) v → Q v H') : ResQ X.K H O r Q := by
  obtain ⟨b, d⟩ := r
  cases b with
  | false => exact fun v H' hk hr => h v H' O (RPost.grow e hk hr)
  | true => exact fun p o hp hs => h _ _ _ (RPost.fresh e hp hs)
def rB (K : PySem.W.Frag) (f : D → D → BR) : R2 := fun x y H Q => ∃ (O : Addr → Prop) (a b : D) (r : Bool × D), (∀ a, O a → Has H a) ∧ RdR K H O a x ∧ RdR K H O b y ∧ f a b = some r ∧ ResQ K H O r Q
theorem opB_of {f : Value → Value → Sem Value} {g : D → D → BR} (h : ∀ (x y : V) (H : Hp) (O : Addr → Prop) (a b : D) (r : Bool × D) (Q : VK), (∀ a, O a → Has H a) → RdR X.K H O a x → RdR X.K H O b y → g a b = some r → ResQ X.K H O r Q → ∃ r2, OpR X f r2 ∧ r2 x y H Q) : OpR X f (rB X.K g) := by
  intro pins s σ H x y v u Q I rx ry q
  obtain ⟨O, a, b, r, dom, ha, hb, e, hq⟩ := q
  obtain ⟨r2, ho, h2⟩ := h x y H O a b r Q dom ha hb e hq
  exact ho pins s σ H x y v u Q I rx ry h2
/-- xs + ys -/
theorem op_catL : OpR X (binaryOp .Add) (fun x y H Q => ∃ a b xs ys, x = .ref a ∧ y = .ref b ∧ SqL X.K H a xs ∧ SqL X.K H b ys ∧ xs.length + ys.length ≤ sizeLine ∧ ∀ p, H p = none → Q (.ref p) (upd H p (.lst (xs ++ ys)))) := by
  intro pins s σ H x y v u Q I rx ry h
  obtain ⟨a, b, xs, ys, rfl, rfl, ha, hb, hz, q⟩ := h
  cases rx
  cases ry
  obtain ⟨i1, r1, p1, _⟩ := I.list ha
  obtain ⟨i2, r2, p2, _⟩ := I.list hb
  obtain ⟨⟨c1, d1, t1, s1⟩, n1, g1, hc1, hd1, ht1⟩ := p1
  obtain ⟨⟨c2, d2, t2, s2⟩, n2, g2, hc2, hd2, ht2⟩ := p2
  simp only at hc1 hd1 ht1 hc2 hd2 ht2
  subst hc1 hd1 ht1 hc2 hd2 ht2
  have l1 := r1.length
  have l2 := r2.length
  refine concat_meets ⟨_, g1, rfl⟩ ⟨_, g2, rfl⟩ noFill_list_add seq_list_add PySem.F.slot_list_add PySem.F.entry_list_add (PySem.F.args_list_add_2 _ _)
    (PyProof.Rows.list_addW a b i1.toArray i2.toArray n1 n2 none none s1 s2 (by rw [List.size_toArray, List.size_toArray]; omega)) ⟨g1, g2, ?_⟩
  have ea : i1.toArray ++ i2.toArray = (i1 ++ i2).toArray := by simp
  rw [ea]
  exact ⟨.ref _, _, I.lnew (t' := s.toks) (r1.append r2) (by rw [List.length_append]; omega), rfl, q _ I.fresh⟩
theorem some_pair {b : Bool} {d : D} {r : Bool × D} (h : (some (b, d) : BR) = some r) : r = (b, d) := (Option.some.inj h).symm
theorem opB_add : OpR X (binaryOp .Add) (rB X.K (binD .Add)) := by
  refine opB_of fun x y H O a b r Q dom ha hb e hq => ?_
  cases a with
  | int i =>
    cases b with
    | int j =>
      cases some_pair e
      exact ⟨_, op_add, i, j, ha.int, hb.int, hq.sc rfl⟩
    | _ => exact nomatch e
  | str i =>
    cases b with
    | str j =>
      have e : (if i.length + j.length ≤ sizeLine then fzR (.str (i ++ j)) else none) = some r := e
      split at e
      · rename_i hz
        cases some_pair e
        exact ⟨_, op_add_str, i, j, ha.str, hb.str, hz, hq.sc rfl⟩
      · cases e
    | _ => exact nomatch e
  | tup i =>
    cases b with
    | tup j =>
      have e : (if i.length + j.length ≤ sizeLine then fzR (.tup (i ++ j)) else none) = some r := e
      split at e
      · rename_i hz
        cases some_pair e
        have ha' := ha
        have hb' := hb
        obtain ⟨a1, xs, e1, s1, r1⟩ := ha.tup
        obtain ⟨b1, ys, e2, s2, r2⟩ := hb.tup
        refine ⟨_, op_catA, a1, b1, xs, ys, e1, e2, SqT.of s1, SqT.of s2, by rw [← r1.length, ← r2.length]; exact hz, fun z => ?_, fun z w => ?_, fun _ _ p hp => hq.tup dom hp (r1.append r2)⟩
        · subst z
          have zi : i = [] := List.length_eq_zero_iff.mp r1.length
          subst zi
          rw [← e2]
          refine hq.here (hb'.elim (fun z => z) fun ⟨_, _, z⟩ => (show False from z).elim)
        · subst w
          have zj : j = [] := List.length_eq_zero_iff.mp r2.length
          subst zj
          rw [← e1]
          rw [List.append_nil] at hq
          refine hq.here (ha'.elim (fun z => z) fun ⟨_, _, z⟩ => (show False from z).elim)
      · cases e
    | _ => exact nomatch e
  | lst i =>
    cases b with
    | lst j =>
      have e : (if i.length + j.length ≤ sizeLine then frR (.lst (i ++ j)) else none) = some r := e
      split at e
      · rename_i hz
        cases some_pair e
        obtain ⟨a1, xs, e1, s1, r1⟩ := ha.lst
        obtain ⟨b1, ys, e2, s2, r2⟩ := hb.lst
        exact ⟨_, op_catL, a1, b1, xs, ys, e1, e2, s1, s2, by rw [← r1.length, ← r2.length]; exact hz, fun p hp => hq.lst hp (r1.append r2)⟩
      · cases e
    | _ => exact nomatch e
  | _ => cases b <;> exact nomatch e
theorem opB_sub : OpR X (binaryOp .Sub) (rB X.K (binD .Sub)) := by
  refine opB_of fun x y H O a b r Q dom ha hb e hq => ?_
  cases a with
  | int i =>
    cases b with
    | int j =>
      cases some_pair e
      exact ⟨_, op_sub, i, j, ha.int, hb.int, hq.sc rfl⟩
    | _ => exact nomatch e
  | _ => cases b <;> exact nomatch e
theorem reps_rep {K : PySem.W.Frag} {H : Hp} {O : Addr → Prop} {l : List D} {xs : List V} (h : Reps K H O l xs) : ∀ n : Nat, Reps K H O (List.replicate n l).flatten (List.replicate n xs).flatten
  | 0 => Reps.nil
  | n + 1 => by
    rw [List.replicate_succ, List.replicate_succ, List.flatten_cons, List.flatten_cons]
    exact h.append (reps_rep h n)
theorem opB_mul : OpR X (binaryOp .Mult) (rB X.K (binD .Mult)) := by
  refine opB_of fun x y H O a b r Q dom ha hb e hq => ?_
  cases a with
  | int i =>
    cases b with
    | int j =>
      have e : (if mulOk i j then fzR (.int (i * j)) else none) = some r := e
      split at e
      · rename_i hm
        cases some_pair e
        refine ⟨_, op_mul, i, j, ha.int, hb.int, ?_, hq.sc rfl⟩
        unfold mulOk at hm
        simp only [Bool.or_eq_true, Bool.and_eq_true, decide_eq_true_eq] at hm
        exact hm
      · cases e
    | _ => exact nomatch e
  | tup i =>
    cases b with
    | int k =>
      have e : (if decide (i ≠ []) && decide (2 ≤ k) && decide (k ≤ 1000) && decide (i.length ≤ 1000) then fzR (.tup (List.replicate k.toNat i).flatten) else none) = some r := e
      split at e
      · rename_i hm
        cases some_pair e
        simp only [Bool.and_eq_true, decide_eq_true_eq] at hm
        obtain ⟨⟨⟨h1, h2⟩, h3⟩, h4⟩ := hm
        obtain ⟨a1, xs, e1, s1, r1⟩ := ha.tup
        refine ⟨_, op_repT, a1, k, xs, e1, hb.int, SqT.of s1, fun z => ?_, h2, h3, by rw [← r1.length]; exact h4, fun p hp => hq.tup dom hp (reps_rep r1 k.toNat)⟩
        subst z
        exact h1 (List.length_eq_zero_iff.mp r1.length)
      · cases e
    | _ => exact nomatch e
  | _ => cases b <;> exact nomatch e
theorem opB_fdiv : OpR X (binaryOp .FloorDiv) (rB X.K (binD .FloorDiv)) := by
  refine opB_of fun x y H O a b r Q dom ha hb e hq => ?_
  cases a with
  | int i =>
    cases b with
    | int j =>
      have e : (if decide (0 < j) && decide (j < 1073741824) then fzR (.int (i / j)) else none) = some r := e
      split at e
      · rename_i hm
        cases some_pair e
        simp only [Bool.and_eq_true, decide_eq_true_eq] at hm
        exact ⟨_, op_fdiv, i, j, ha.int, hb.int, hm, hq.sc rfl⟩
      · cases e
    | _ => exact nomatch e
  | _ => cases b <;> exact nomatch e
theorem opB_mod : OpR X (binaryOp .Mod) (rB X.K (binD .Mod)) := by
  refine opB_of fun x y H O a b r Q dom ha hb e hq => ?_
  cases a with
  | int i =>
    cases b with
    | int j =>
      have e : (if decide (0 < j) then fzR (.int (i % j)) else none) = some r := e
      split at e
      · rename_i hm
        cases some_pair e
        simp only [decide_eq_true_eq] at hm
        exact ⟨_, op_mod, i, j, ha.int, hb.int, hm, hq.sc rfl⟩
      · cases e
    | _ => exact nomatch e
  | _ => cases b <;> exact nomatch e
theorem opB_pow : OpR X (binaryOp .Pow) (rB X.K (binD .Pow)) := by
  refine opB_of fun x y H O a b r Q dom ha hb e hq => ?_
  cases a with
  | int i =>
    cases b with
    | int j =>
      have e : (if decide (0 ≤ j) && decide (j ≤ 1000000) && decide (i.natAbs < 2 ^ 64) then fzR (.int (i ^ j.toNat)) else none) = some r := e
      split at e
      · rename_i hm
        cases some_pair e
        simp only [Bool.and_eq_true, decide_eq_true_eq] at hm
        exact ⟨_, op_pow, i, j, ha.int, hb.int, ⟨hm.1.1, hm.1.2, hm.2⟩, hq.sc rfl⟩
      · cases e
    | _ => exact nomatch e
  | _ => cases b <;> exact nomatch e
theorem opB_all (op : Operator) : OpR X (binaryOp op) (rB X.K (binD op)) := by
  cases op with
  | Add => exact opB_add
  | Sub => exact opB_sub
  | Mult => exact opB_mul
  | FloorDiv => exact opB_fdiv
  | Mod => exact opB_mod
  | Pow => exact opB_pow
  | _ => exact opB_of fun x y H O a b r Q dom ha hb e hq => nomatch e
theorem se_bin {op : Operator} {a b : Expr} {ia ib : E} {pos : Pos} (ha : SE G X C fns a ia) (hb : SE G X C fns b ib) : SE G X C fns (.BinOp a op b pos) (.bin op ia ib) := by
  intro σ H O env Q W tk er h
  simp only [evE] at h
  refine TM.of (pe_op (opB_all op) (peM a) (peM b)) (se_bin2 (binV op) ha hb (fun σ H O env x y vx vy Q e hx hy h => ?_) σ H O env Q W tk er h)
  unfold binV at h
  cases q1 : nowD env x with
  | none => rw [q1] at h; exact (show False from h).elim
  | some a =>
    cases q2 : nowD env y with
    | none => rw [q1, q2] at h; exact (show False from h).elim
    | some b =>
      rw [q1, q2] at h
      simp only at h
      cases q3 : binD op a b with
      | none => rw [q3] at h; exact (show False from h).elim
      | some r =>
        rw [q3] at h
        exact ⟨O, a, b, r, e.dom, VdR.now e hx q1, VdR.now e hy q2, q3, ResQ.of e h⟩
end
end PB

/-! PBd -/
/-! PB, part D: comparisons, tests, displays, subscripts. -/
namespace PB
open PySem L2
variable [Tb]
section
variable {G : Glob} {X : Cx} {C : Callee} {fns : List Fn} {σ : L2.St} {H H' : Hp} {O O' : Addr → Prop} {env env' : Env} {W : WX}

/-! ### deep data -/
theorem dpAll_of {K : PySem.W.Frag} {l : List D} (ih : ∀ d ∈ l, ∀ v, (toPy d).canLay0 = true → Rep K H O d v → Dp K H v (toPy d)) : ∀ {xs : List V}, PyData.canLayAll0 (toPys l) = true → Reps K H O l xs → DpAll K H xs (toPys l) := by
  induction l with
  | nil =>
    intro xs _ h
    have h : xs = [] := h
    subst h
    exact .nil
  | cons d ds i =>
    intro xs hc h
    obtain ⟨x, r, e, h1, h2⟩ : ∃ x r, xs = x :: r ∧ Rep K H O d x ∧ Reps K H O ds r := h
    subst e
    have hc : ((toPy d).canLay0 && PyData.canLayAll0 (toPys ds)) = true := hc
    rw [Bool.and_eq_true] at hc
    exact .cons (ih d List.mem_cons_self x hc.1 h1) (i (fun d hd => ih d (List.mem_cons_of_mem _ hd)) hc.2 h2)
theorem dp_of {K : PySem.W.Frag} : ∀ (d : D) (v : V), (toPy d).canLay0 = true → Rep K H O d v → Dp K H v (toPy d) := by
  intro d
  induction d using D.ind with
  | h1 => intro v _ h; have h : v = .non := h; subst h; exact .non
  | h2 b => intro v _ h; have h : v = .bl b := h; subst h; exact .bl b
  | h3 b => intro v _ h; have h : v = .int b := h; subst h; exact .int b
  | h4 b => intro v _ h; have h : v = .str b := h; subst h; exact .str b
  | h5 l ih =>
    intro v hc h
    simp only [Rep] at h
    obtain ⟨a, xs, e, n, hs, hr⟩ := h
    subst e
    exact .tup (SqT.of hs) (dpAll_of ih hc hr)
  | h6 l ih =>
    intro v hc h
    simp only [Rep] at h
    obtain ⟨a, xs, e, n, hs, hr⟩ := h
    subst e
    exact .lst hs (dpAll_of ih hc hr)
  | h7 l ih => intro v hc h; exact nomatch (show false = true from hc)
  | h8 l ih => intro v hc h; exact nomatch (show false = true from hc)
  | h9 c l ih => intro v hc h; exact nomatch (show false = true from hc)
  | h10 c l ih => intro v hc h; exact nomatch (show false = true from hc)
  | h11 c l ih => intro v hc h; exact nomatch (show false = true from hc)
theorem RdR.dp {K : PySem.W.Frag} {d : D} {v : V} (h : RdR K H O d v) (hc : (toPy d).canLay0 = true) : Dp K H v (toPy d) := by
  rcases h with h | ⟨a, e, h⟩
  · exact dp_of d v hc h
  · subst e
    cases d with
    | lst l =>
      obtain ⟨xs, e, r⟩ := h
      exact .lst (SqL.of e) (dpAll_of (fun d _ v => dp_of d v) hc r)
    | dk l => exact nomatch (show false = true from hc)
    | dt l => exact nomatch (show false = true from hc)
    | obj c l => exact nomatch (show false = true from hc)
    | _ => exact (show False from h).elim

/-! ### comparisons -/
def rC (K : PySem.W.Frag) (f : D → D → Option Bool) : R2 := fun x y H Q => ∃ (O : Addr → Prop) (a b : D) (r : Bool), RdR K H O a x ∧ RdR K H O b y ∧ f a b = some r ∧ Q (.bl r) H
theorem opC_of {f : Value → Value → Sem Value} {g : D → D → Option Bool} (h : ∀ (x y : V) (H : Hp) (O : Addr → Prop) (a b : D) (r : Bool) (Q : VK), RdR X.K H O a x → RdR X.K H O b y → g a b = some r → Q (.bl r) H → ∃ r2, OpR X f r2 ∧ r2 x y H Q) : OpR X f (rC X.K g) := by
  intro pins s σ H x y v u Q I rx ry q
  obtain ⟨O, a, b, r, ha, hb, e, hq⟩ := q
  obtain ⟨r2, ho, h2⟩ := h x y H O a b r Q ha hb e hq
  exact ho pins s σ H x y v u Q I rx ry h2
theorem eqD_case {a b : D} {r : Bool} (h : eqD a b = some r) : (∃ x y, a = .str x ∧ b = .str y ∧ r = decide (x = y)) ∨ eqG a b = some r := by
  unfold eqD at h
  split at h
  · exact .inl ⟨_, _, rfl, rfl, (Option.some.inj h).symm⟩
  · exact .inr h
theorem eqG_some {a b : D} {r : Bool} (h : eqG a b = some r) : SeqAt.shaped (toPy a) = true ∧ SeqAt.shaped (toPy b) = true ∧ r = PyData.eqv (toPy a) (toPy b) := by
  unfold eqG at h
  split at h
  · rename_i hc
    rw [Bool.and_eq_true] at hc
    exact ⟨hc.1, hc.2, (Option.some.inj h).symm⟩
  · cases h
theorem op_dictIn (hu : X.A.units + 1 < cLine) (neg : Bool) : OpR X (compareOp (if neg then .NotIn else .In)) (fun x y H Q => ∃ a ov, y = .ref a ∧ DGet H a x ov ∧ Q (.bl (if neg then !ov.isSome else ov.isSome)) H) := by
  intro pins s σ H x y v u Q I rx ry h
  obtain ⟨a, ov, rfl, g, q⟩ := h
  cases ry
  cases neg with
  | false => exact d_in hu I g rx fun s3 I3 => ⟨.bl ov.isSome, H, I3, rfl, q⟩
  | true => exact d_notIn hu I g rx fun s3 I3 => ⟨.bl (!ov.isSome), H, I3, rfl, q⟩
theorem op_inT (hu : X.A.units + 65 < cLine) : OpR X (compareOp .In) (fun x y H Q => ∃ d ds, Dp X.K H x d ∧ Dp X.K H y (.tuple ds) ∧ SeqAt.shaped d = true ∧ SeqAt.shaped (.tuple ds) = true ∧ Q (.bl (ds.any fun z => PyData.eqv z d)) H) := by
  intro pins s σ H x y v u Q I rx ry h
  obtain ⟨d, ds, hd, he, sd, se, q⟩ := h
  obtain ⟨as, r1⟩ := Dp.reads I d x v hd rx
  obtain ⟨bs, r2⟩ := Dp.reads I (.tuple ds) y u he ry
  exact SeqAt.in_tuple_reads r2 r1 (SeqAt.canLay_of_shaped se) (SeqAt.canLay_of_shaped sd) (PyProof.Rows.room_in_shaped sd hu) ⟨.bl _, H, I, rfl, q⟩
theorem op_notInT (hu : X.A.units + 65 < cLine) : OpR X (compareOp .NotIn) (fun x y H Q => ∃ d ds, Dp X.K H x d ∧ Dp X.K H y (.tuple ds) ∧ SeqAt.shaped d = true ∧ SeqAt.shaped (.tuple ds) = true ∧ Q (.bl (!ds.any fun z => PyData.eqv z d)) H) := by
  intro pins s σ H x y v u Q I rx ry h
  obtain ⟨d, ds, hd, he, sd, se, q⟩ := h
  obtain ⟨as, r1⟩ := Dp.reads I d x v hd rx
  obtain ⟨bs, r2⟩ := Dp.reads I (.tuple ds) y u he ry
  exact SeqAt.notIn_tuple_reads r2 r1 (SeqAt.canLay_of_shaped se) (SeqAt.canLay_of_shaped sd) (PyProof.Rows.room_in_shaped sd hu) ⟨.bl _, H, I, rfl, q⟩
theorem keyD_rd {K : PySem.W.Frag} {d : D} {v : V} {k : Key} (h : RdR K H O d v) (e : keyD d = some k) : v = kV k := by
  cases d with
  | int i => cases e; exact h.int
  | str i => cases e; exact h.str
  | _ => exact nomatch e
theorem keyD_rep {K : PySem.W.Frag} {d : D} {v : V} {k : Key} (h : Rep K H O d v) (e : keyD d = some k) : v = kV k := keyD_rd (.inl h) e
theorem keysD_rep {K : PySem.W.Frag} : ∀ {l : List D} {xs : List V} {ks : List Key}, Reps K H O l xs → keysD l = some ks → xs = ks.map kV
  | [], xs, ks, h, e => by
    have h : xs = [] := h
    have e : some [] = some ks := e
    cases e
    rw [h]; rfl
  | d :: ds, xs, ks, h, e => by
    obtain ⟨x, r, e1, h1, h2⟩ : ∃ x r, xs = x :: r ∧ Rep K H O d x ∧ Reps K H O ds r := h
    subst e1
    have e : (match keyD d, keysD ds with
      | some k, some ks => some (k :: ks)
      | _, _ => none) = some ks := e
    cases q1 : keyD d with
    | none => rw [q1] at e; cases e
    | some k =>
      cases q2 : keysD ds with
      | none => rw [q1, q2] at e; cases e
      | some ks' =>
        rw [q1, q2] at e
        have e : k :: ks' = ks := Option.some.inj e
        subst e
        rw [List.map_cons, keyD_rep h1 q1, keysD_rep h2 q2]
theorem Rept.get {K : PySem.W.Frag} {k : List Key} : ∀ {l : List (List Key × D)} {xs : List (List Key × V)}, Rept K H O l xs → match kget l k with
    | some d => ∃ v, valV xs k = some v ∧ Rep K H O d v
    | none => valV xs k = none
  | [], xs, h => by
    have h : xs = [] := h
    subst h
    exact rfl
  | (k', d) :: ds, xs, h => by
    obtain ⟨x, r, e, h1, h2⟩ : ∃ x r, xs = (k', x) :: r ∧ Rep K H O d x ∧ Rept K H O ds r := h
    subst e
    by_cases z : k' = k
    · have e1 : kget ((k', d) :: ds) k = some d := by simp [kget, List.find?_cons, z]
      rw [e1]
      exact ⟨x, valV_pos z, h1⟩
    · have e1 : kget ((k', d) :: ds) k = kget ds k := by simp [kget, List.find?_cons, z]
      rw [e1, valV_neg z]
      exact Rept.get h2
/-- a dict by data -/
theorem dget_k {K : PySem.W.Frag} {l : List (Key × D)} {kd : D} {k : Key} {x y : V} (h : RdR K H O (.dk l) y) (hk : RdR K H O kd x) (e : keyD kd = some k) : ∃ a ov, y = .ref a ∧ DGet H a x ov ∧ ov.isSome = (kget l k).isSome ∧ ∀ d, kget l k = some d → ∃ v, ov = some v ∧ Rep K H O d v := by
  obtain ⟨a, kvs, e1, e2, r⟩ := h.dk
  refine ⟨a, valV kvs k, e1, by rw [keyD_rd hk e]; exact DGet.k e2, ?_⟩
  have g := r.get (k := k)
  cases q : kget l k with
  | none => rw [q] at g; simp only at g; rw [g]; exact ⟨rfl, fun d z => nomatch z⟩
  | some d =>
    rw [q] at g
    obtain ⟨v, g1, g2⟩ := g
    rw [g1]
    exact ⟨rfl, fun d' z => by cases z; exact ⟨v, rfl, g2⟩⟩
theorem dget_t {K : PySem.W.Frag} {l : List (List Key × D)} {ds : List D} {k : List Key} {x y : V} (h : RdR K H O (.dt l) y) (hk : RdR K H O (.tup ds) x) (e : keysD ds = some k) : ∃ a ov, y = .ref a ∧ DGet H a x ov ∧ ov.isSome = (kget l k).isSome ∧ ∀ d, kget l k = some d → ∃ v, ov = some v ∧ Rep K H O d v := by
  obtain ⟨a, kvs, e1, e2, r⟩ := h.dt
  obtain ⟨b, xs, e3, e4, r2⟩ := hk.tup
  have ex := keysD_rep r2 e
  refine ⟨a, valV kvs k, e1, by rw [e3]; exact .inr ⟨kvs, k, b, e2, rfl, by rw [e4, ex], rfl⟩, ?_⟩
  have g := r.get (k := k)
  cases q : kget l k with
  | none => rw [q] at g; simp only at g; rw [g]; exact ⟨rfl, fun d z => nomatch z⟩
  | some d =>
    rw [q] at g
    obtain ⟨v, g1, g2⟩ := g
    rw [g1]
    exact ⟨rfl, fun d' z => by cases z; exact ⟨v, rfl, g2⟩⟩
theorem opC_in (hu : X.A.units + 65 < cLine) (neg : Bool) : OpR X (compareOp (if neg then .NotIn else .In)) (rC X.K (fun a b => (inD a b).map fun r => if neg then !r else r)) := by
  refine opC_of fun x y H O a b r Q ha hb e hq => ?_
  cases q : inD a b with
  | none => rw [q] at e; cases e
  | some t =>
    rw [q] at e
    have e : (if neg then !t else t) = r := Option.some.inj e
    subst e
    cases b with
    | lst l =>
      have q : (if SeqAt.shaped (toPy a) && SeqAt.shaped (.list (toPys l)) then some ((toPys l).any fun z => PyData.eqv z (toPy a)) else none) = some t := q
      split at q
      · rename_i hc
        rw [Bool.and_eq_true] at hc
        cases q
        have h1 := ha.dp (SeqAt.canLay_of_shaped hc.1)
        have h2 : Dp X.K H y (.list (toPys l)) := hb.dp (d := .lst l) (SeqAt.canLay_of_shaped hc.2)
        cases neg with
        | false => exact ⟨_, op_inD hu, _, _, h1, h2, hc.1, hc.2, hq⟩
        | true => exact ⟨_, op_notInD hu, _, _, h1, h2, hc.1, hc.2, hq⟩
      · cases q
    | tup l =>
      have q : (if SeqAt.shaped (toPy a) && SeqAt.shaped (.tuple (toPys l)) then some ((toPys l).any fun z => PyData.eqv z (toPy a)) else none) = some t := q
      split at q
      · rename_i hc
        rw [Bool.and_eq_true] at hc
        cases q
        have h1 := ha.dp (SeqAt.canLay_of_shaped hc.1)
        have h2 : Dp X.K H y (.tuple (toPys l)) := hb.dp (d := .tup l) (SeqAt.canLay_of_shaped hc.2)
        cases neg with
        | false => exact ⟨_, op_inT hu, _, _, h1, h2, hc.1, hc.2, hq⟩
        | true => exact ⟨_, op_notInT hu, _, _, h1, h2, hc.1, hc.2, hq⟩
      · cases q
    | dk l =>
      have q : (match keyD a with
        | some k => some (kget l k).isSome
        | none => none) = some t := q
      cases qk : keyD a with
      | none => rw [qk] at q; cases q
      | some k =>
        rw [qk] at q
        have q : (kget l k).isSome = t := Option.some.inj q
        obtain ⟨p, ov, e1, g, e2, _⟩ := dget_k hb ha qk
        exact ⟨_, op_dictIn (by omega) neg, p, ov, e1, g, by rw [e2, q]; exact hq⟩
    | dt l =>
      cases a with
      | tup ds =>
        have q : (match keysD ds with
          | some k => some (kget l k).isSome
          | none => none) = some t := q
        cases qk : keysD ds with
        | none => rw [qk] at q; cases q
        | some k =>
          rw [qk] at q
          have q : (kget l k).isSome = t := Option.some.inj q
          obtain ⟨p, ov, e1, g, e2, _⟩ := dget_t hb ha qk
          exact ⟨_, op_dictIn (by omega) neg, p, ov, e1, g, by rw [e2, q]; exact hq⟩
      | _ => exact nomatch q
    | str z =>
      cases a with
      | str z' =>
        cases q
        cases neg with
        | false => exact ⟨_, op_in_str, z', z, ha.str, hb.str, hq⟩
        | true => exact ⟨_, op_notin_str, z', z, ha.str, hb.str, hq⟩
      | _ => exact nomatch q
    | _ => exact nomatch q
theorem isNon_of {K : PySem.W.Frag} {d : D} {v : V} (h : RdR K H O d v) : decide (v = .non) = isNon d := by
  cases d with
  | non => rw [h.non]; rfl
  | bl b => rw [h.bl]; rfl
  | int b => rw [h.int]; rfl
  | str b => rw [h.str]; rfl
  | tup l => obtain ⟨a, xs, e, _⟩ := h.tup; rw [e]; rfl
  | lst l => obtain ⟨a, xs, e, _⟩ := h.lst; rw [e]; rfl
  | dk l => obtain ⟨a, xs, e, _⟩ := h.dk; rw [e]; rfl
  | dt l => obtain ⟨a, xs, e, _⟩ := h.dt; rw [e]; rfl
  | obj c l => obtain ⟨a, dx, xs, e, _⟩ := h.obj; rw [e]; rfl
  | exc c l => obtain ⟨a, dx, xs, e, _⟩ := h.exc; rw [e]; rfl
  | clo c l =>
    rcases h with h | ⟨_, _, z⟩
    · simp only [Rep] at h
      obtain ⟨a, e⟩ := h
      rw [e]
      rfl
    · exact (show False from z).elim
theorem opC_all (hu : X.A.units + 65 < cLine) (op : CmpOp) : OpR X (compareOp op) (rC X.K (cmpD op)) := by
  cases op with
  | Lt =>
    refine opC_of fun x y H O a b r Q ha hb e hq => ?_
    cases a with
    | int i =>
      cases b with
      | int j => cases e; exact ⟨_, op_lt, i, j, ha.int, hb.int, hq⟩
      | _ => exact nomatch e
    | _ => cases b <;> exact nomatch e
  | LtE =>
    refine opC_of fun x y H O a b r Q ha hb e hq => ?_
    cases a with
    | int i =>
      cases b with
      | int j => cases e; exact ⟨_, op_le, i, j, ha.int, hb.int, hq⟩
      | _ => exact nomatch e
    | _ => cases b <;> exact nomatch e
  | Gt =>
    refine opC_of fun x y H O a b r Q ha hb e hq => ?_
    cases a with
    | int i =>
      cases b with
      | int j => cases e; exact ⟨_, op_gt, i, j, ha.int, hb.int, hq⟩
      | _ => exact nomatch e
    | _ => cases b <;> exact nomatch e
  | GtE =>
    refine opC_of fun x y H O a b r Q ha hb e hq => ?_
    cases a with
    | int i =>
      cases b with
      | int j => cases e; exact ⟨_, op_ge, i, j, ha.int, hb.int, hq⟩
      | _ => exact nomatch e
    | _ => cases b <;> exact nomatch e
  | Eq =>
    refine opC_of fun x y H O a b r Q ha hb e hq => ?_
    rcases eqD_case (show eqD a b = some r by cases a <;> exact e) with ⟨s, t, rfl, rfl, er⟩ | e
    · have e1 := ha.str
      have e2 := hb.str
      subst e1 e2
      refine ⟨_, op_eq, rfl, ?_⟩
      have z : decide (V.str s = V.str t) = r := by rw [er]; simp
      rw [z]; exact hq
    obtain ⟨h1, h2, e⟩ := eqG_some e
    subst e
    exact ⟨_, op_eqD (by omega), _, _, ha.dp (SeqAt.canLay_of_shaped h1), hb.dp (SeqAt.canLay_of_shaped h2), h1, h2, hq⟩
  | NotEq =>
    refine opC_of fun x y H O a b r Q ha hb e hq => ?_
    have e : (eqD a b).map not = some r := by cases a <;> exact e
    cases q : eqD a b with
    | none => rw [q] at e; cases e
    | some t =>
      rw [q] at e
      have en : (!t) = r := Option.some.inj e
      rcases eqD_case q with ⟨s, u, rfl, rfl, er⟩ | q
      · have e1 := ha.str
        have e2 := hb.str
        subst e1 e2
        refine ⟨_, op_ne, rfl, ?_⟩
        have z : (!decide (V.str s = V.str u)) = r := by rw [← en, er]; simp
        rw [z]; exact hq
      obtain ⟨h1, h2, e3⟩ := eqG_some q
      subst e3 en
      exact ⟨_, op_neD (by omega), _, _, ha.dp (SeqAt.canLay_of_shaped h1), hb.dp (SeqAt.canLay_of_shaped h2), h1, h2, hq⟩
  | Is =>
    refine opC_of fun x y H O a b r Q ha hb e hq => ?_
    cases b with
    | non =>
      have e : some (isNon a) = some r := by cases a <;> exact e
      cases e
      exact ⟨_, op_isN, hb.non, by rw [isNon_of ha]; exact hq⟩
    | _ => cases a <;> exact nomatch e
  | IsNot =>
    refine opC_of fun x y H O a b r Q ha hb e hq => ?_
    cases b with
    | non =>
      have e : some (!isNon a) = some r := by cases a <;> exact e
      cases e
      exact ⟨_, op_notN, hb.non, by rw [isNon_of ha]; exact hq⟩
    | _ => cases a <;> exact nomatch e
  | In =>
    have h := opC_in (X := X) hu false
    intro pins s σ H x y v u Q I rx ry q
    refine h pins s σ H x y v u Q I rx ry ?_
    obtain ⟨O, a, b, r, ha, hb, e, hq⟩ := q
    exact ⟨O, a, b, r, ha, hb, by
      have e : inD a b = some r := (by cases a <;> exact e)
      show Option.map _ (inD a b) = some r
      rw [e]; rfl, hq⟩
  | NotIn =>
    have h := opC_in (X := X) hu true
    intro pins s σ H x y v u Q I rx ry q
    refine h pins s σ H x y v u Q I rx ry ?_
    obtain ⟨O, a, b, r, ha, hb, e, hq⟩ := q
    exact ⟨O, a, b, r, ha, hb, by
      have e : (inD a b).map not = some r := (by cases a <;> exact e)
      rw [← e]; rfl, hq⟩
/-- the comparison, behind both sides -/
theorem cmp_now (e : EnvR X.K H O σ env) {op : CmpOp} {x y : Vd} {vx vy : V} {P : Bool → Env → Prop} {E : D → Env → Prop} (hx : VdR X.K H O σ env x vx) (hy : VdR X.K H O σ env y vy) (h : Out (cmpV op x y env) P E) : ∃ a b r, RdR X.K H O a vx ∧ RdR X.K H O b vy ∧ cmpD op a b = some r ∧ P r env := by
  unfold cmpV at h
  cases q1 : nowD env x with
  | none => rw [q1] at h; exact (show False from h).elim
  | some a =>
    cases q2 : nowD env y with
    | none => rw [q1, q2] at h; exact (show False from h).elim
    | some b =>
      rw [q1, q2] at h
      simp only at h
      cases q3 : cmpD op a b with
      | none => rw [q3] at h; exact (show False from h).elim
      | some r =>
        rw [q3] at h
        exact ⟨a, b, r, VdR.now e hx q1, VdR.now e hy q2, q3, h⟩
theorem rp_bl (e : EnvR X.K H O σ env) (b : Bool) : RPost X.K σ H O env H O env (.fz (.bl b)) (.bl b) := RPost.here e rfl
theorem se_cmp (hu : X.A.units + 65 < cLine) {op : CmpOp} {a b : Expr} {ia ib : E} {pos : Pos} (hm : behindInMarks op b = false) (ha : SE G X C fns a ia) (hb : SE G X C fns b ib) : SE G X C fns (.Compare a [op] [b] pos) (.cmp op ia ib) := by
  intro σ H O env Q W tk er h
  simp only [evE] at h
  refine TM.of (pe_cmpR (opC_all hu op) (peM a) (peM b) hm) (se_bin2 (fun x y env => (cmpV op x y env).bind fun b env => .ok (.fz (.bl b)) env) ha hb (fun σ H O env x y vx vy Q e hx hy h => ?_) σ H O env Q W tk er h)
  obtain ⟨a, b, r, h1, h2, h3, h4⟩ := cmp_now e hx hy h.bind
  exact ⟨O, a, b, r, h1, h2, h3, h4 _ _ _ (rp_bl e r)⟩
/-- tests -/
theorem out_bool {ir : E} {Q : Bool → Hp → Prop} (h : WOut G X W σ H O env (evB C fns ir env) (fun b env' => ∀ H' O', Post X.K σ None0 H O env H' O' env' → Q b H')) :
    WOut G X W σ H O env (evE C fns ir env) (fun r env' => ∀ v H' O', RPost X.K σ H O env H' O' env' r v → ∃ k, v = .bl k ∧ Q k H') := by
  refine Out.mono (Out.bind h) (fun r env1 _ h1 v H1 O1 p1 => ?_) fun _ _ k => k
  cases r with
  | fz d =>
    cases d with
    | bl b =>
      have hv : v = .bl b := p1.vr
      exact ⟨b, hv, h1 H1 O1 p1.p⟩
    | _ => exact (show False from h1).elim
  | _ => exact (show False from h1).elim
theorem st_plain {e : Expr} {ir : E} (h : SE G X C fns e ir) (he : ∀ whole, isTrue e X.env whole = (do let v ← whole; standAt e.pos; holding [v] (truthy v))) : ST G X C fns e ir := by
  intro σ H O env Q W tk er q
  exact TMt.of (pt_val (peM e) he) (h σ H O env _ W tk er (out_bool q))
theorem st_cmp (hu : X.A.units + 65 < cLine) {op : CmpOp} {a b : Expr} {ia ib : E} {pos : Pos} (hm : behindInMarks op b = false) (ha : SE G X C fns a ia) (hb : SE G X C fns b ib) : ST G X C fns (.Compare a [op] [b] pos) (.cmp op ia ib) := by
  intro σ H O env Q W tk er h
  have h := out_bool h
  simp only [evE] at h
  refine TMt.of (pt_cmpR (opC_all hu op) (peM a) (peM b) hm) (se_bin2 (fun x y env => (cmpV op x y env).bind fun b env => .ok (.fz (.bl b)) env) ha hb (fun σ H O env x y vx vy Q e hx hy h => ?_) σ H O env _ W tk er h)
  obtain ⟨a, b, r, h1, h2, h3, h4⟩ := cmp_now e hx hy h.bind
  exact ⟨O, a, b, r, h1, h2, h3, h4 _ _ _ (rp_bl e r)⟩
/-- a op b op' c -/
theorem chn_run (hu : X.A.units + 65 < cLine) {op op' : CmpOp} {a b c : Expr} {ia ib ic : E} (ha : SE G X C fns a ia) (hb : SE G X C fns b ib) (hc : SE G X C fns c ic) {Q : VK} (tk : Takes X W) (er : EnvR X.K H O σ env)
    (h : WOut G X W σ H O env (evE C fns (.chn op op' ia ib ic) env) (fun r env' => ∀ v H' O', RPost X.K σ H O env H' O' env' r v → Q v H')) : tChain (rC X.K (cmpD op)) (rC X.K (cmpD op')) (TM X a) (TM X b) (TM X c) σ H Q := by
  simp only [evE] at h
  refine ha σ H O env _ W tk er (Out.mono h.bind (fun x env1 _ h1 v H1 O1 p1 => ?_) fun _ _ k => k)
  have er1 := p1.p.er
  refine hb σ H1 O1 env1 _ W tk er1 (WOut.behind p1.p h1.bind fun y env2 _ h2 vy H2 O2 p2 => ?_)
  have vx := p2.p.vd er1 p1.vr fun a _ z => z
  have er2 := p2.p.er
  have p12 := p1.p.then0 p2.p
  obtain ⟨da, db, r, g1, g2, g3, g4⟩ := cmp_now er2 vx p2.vr h2.bind
  refine ⟨O2, da, db, r, g1, g2, g3, r, rfl, ?_⟩
  cases r with
  | false =>
    simp only [Bool.false_eq_true, if_false] at g4 ⊢
    exact g4 _ _ _ (RPost.more p12 (rp_bl er2 false))
  | true =>
    simp only [if_true] at g4 ⊢
    refine hc σ H2 O2 env2 _ W tk er2 (WOut.behind p12 g4.bind fun z env3 _ h3 vz H3 O3 p3 => ?_)
    have vy' := p3.p.vd er2 p2.vr fun a _ z => z
    obtain ⟨db', dc, r', k1, k2, k3, k4⟩ := cmp_now p3.p.er vy' p3.vr h3.bind
    exact ⟨O3, db', dc, r', k1, k2, k3, k4 _ _ _ (RPost.more (p12.then0 p3.p) (rp_bl p3.p.er r'))⟩
theorem se_chn (hu : X.A.units + 65 < cLine) {op op' : CmpOp} {a b c : Expr} {ia ib ic : E} {pos : Pos} (hm : lastMarks [op, op'] [b, c] = false) (ha : SE G X C fns a ia) (hb : SE G X C fns b ib) (hc : SE G X C fns c ic) : SE G X C fns (.Compare a [op, op'] [b, c] pos) (.chn op op' ia ib ic) :=
  fun σ H O env Q W tk er h => TM.of (pe_chain (opC_all hu op) (opC_all hu op') (peM a) (peM b) (peM c) hm) (chn_run hu ha hb hc tk er h)
theorem st_chn (hu : X.A.units + 65 < cLine) {op op' : CmpOp} {a b c : Expr} {ia ib ic : E} {pos : Pos} (hm : lastMarks [op, op'] [b, c] = false) (ha : SE G X C fns a ia) (hb : SE G X C fns b ib) (hc : SE G X C fns c ic) : ST G X C fns (.Compare a [op, op'] [b, c] pos) (.chn op op' ia ib ic) :=
  fun σ H O env Q W tk er h => TMt.of (pt_chain (opC_all hu op) (opC_all hu op') (peM a) (peM b) (peM c) hm) (chn_run hu ha hb hc tk er (out_bool h))
theorem boolV_out {v : Vd} {P : Bool → Env → Prop} {E : D → Env → Prop} (h : Out (boolV v env) P E) : ∃ b, v = .fz (.bl b) ∧ P b env := by
  cases v with
  | fz d =>
    cases d with
    | bl b => exact ⟨b, rfl, h⟩
    | _ => exact (show False from h).elim
  | _ => exact (show False from h).elim
/-- not -/
theorem se_not {a : Expr} {ia : E} {pos : Pos} (ha : SE G X C fns a ia) : SE G X C fns (.UnaryOp .Not a pos) (.not ia) := by
  intro σ H O env Q W tk er h
  simp only [evE] at h
  refine TM.of (pe_not (peM a)) ?_
  refine ha σ H O env _ W tk er (Out.mono h.bind (fun x env1 _ h1 v H1 O1 p1 => ?_) fun _ _ k => k)
  obtain ⟨b, e, q⟩ := boolV_out (Out.bind h1)
  subst e
  have hv : v = .bl b := p1.vr
  exact ⟨b, hv, q _ _ _ (RPost.more p1.p (rp_bl p1.p.er (!b)))⟩
theorem st_not {a : Expr} {ia : E} {pos : Pos} (ha : ST G X C fns a ia) : ST G X C fns (.UnaryOp .Not a pos) (.not ia) := by
  intro σ H O env Q W tk er h
  refine TMt.of (pt_not (ptM a)) ?_
  simp only [evB, evE] at h
  refine ha σ H O env _ W tk er ?_
  unfold evB
  cases q : evE C fns ia env with
  | ok x env1 =>
    rw [q] at h
    cases q2 : boolV x env1 with
    | ok b env2 =>
      simp only [Res.bind, q2] at h ⊢
      exact h
    | exc z e => simp only [Res.bind, q2] at h ⊢; exact h
    | err => simp only [Res.bind, q2] at h ⊢; exact h
  | exc x e => rw [q] at h; exact h
  | err => rw [q] at h; exact h
theorem se_neg {a : Expr} {ia : E} {pos : Pos} (ha : SE G X C fns a ia) : SE G X C fns (.UnaryOp .USub a pos) (.neg ia) := by
  intro σ H O env Q W tk er h
  simp only [evE] at h
  refine TM.of (pe_un un_neg (peM a)) ?_
  refine ha σ H O env _ W tk er (Out.mono h.bind (fun x env1 _ h1 v H1 O1 p1 => ?_) fun _ _ k => k)
  cases x with
  | fz d =>
    cases d with
    | int i =>
      have hv : v = .int i := p1.vr
      exact ⟨i, hv, h1 _ _ _ (RPost.more p1.p (RPost.here p1.p.er rfl))⟩
    | _ => exact (show False from h1).elim
  | _ => exact (show False from h1).elim
/-! ### and, or, if -/
theorem se_and {a b : Expr} {rest : List Expr} {ia ib : E} {pos : Pos} (ha : SE G X C fns a ia) (hb : SE G X C fns (.BoolOp .And (b :: rest) pos) ib) : SE G X C fns (.BoolOp .And (a :: b :: rest) pos) (.and ia ib) := by
  intro σ H O env Q W tk er h
  simp only [evE] at h
  refine TM.of (pe_and (peM a) (peM _)) ?_
  refine ha σ H O env _ W tk er (Out.mono h.bind (fun x env1 _ h1 v H1 O1 p1 => ?_) fun _ _ k => k)
  obtain ⟨c, e, q⟩ := boolV_out (Out.bind h1)
  subst e
  have hv : v = .bl c := p1.vr
  refine ⟨c, hv, ?_⟩
  cases c with
  | true =>
    simp only [if_true] at q ⊢
    exact hb σ H1 O1 env1 _ W tk p1.p.er (WOut.behind p1.p q fun r env2 _ h2 v2 H2 O2 p2 => h2 _ _ _ (RPost.more p1.p p2))
  | false =>
    simp only [Bool.false_eq_true, if_false] at q ⊢
    exact q _ _ _ (RPost.more p1.p (rp_bl p1.p.er false))
theorem se_or {a b : Expr} {rest : List Expr} {ia ib : E} {pos : Pos} (ha : SE G X C fns a ia) (hb : SE G X C fns (.BoolOp .Or (b :: rest) pos) ib) : SE G X C fns (.BoolOp .Or (a :: b :: rest) pos) (.or ia ib) := by
  intro σ H O env Q W tk er h
  simp only [evE] at h
  refine TM.of (pe_or (peM a) (peM _)) ?_
  refine ha σ H O env _ W tk er (Out.mono h.bind (fun x env1 _ h1 v H1 O1 p1 => ?_) fun _ _ k => k)
  obtain ⟨c, e, q⟩ := boolV_out (Out.bind h1)
  subst e
  have hv : v = .bl c := p1.vr
  refine ⟨c, hv, ?_⟩
  cases c with
  | false =>
    simp only [Bool.false_eq_true, if_false] at q ⊢
    exact hb σ H1 O1 env1 _ W tk p1.p.er (WOut.behind p1.p q fun r env2 _ h2 v2 H2 O2 p2 => h2 _ _ _ (RPost.more p1.p p2))
  | true =>
    simp only [if_true] at q ⊢
    exact q _ _ _ (RPost.more p1.p (rp_bl p1.p.er true))
theorem se_one {op : BoolOp} {a : Expr} {ia : E} {pos : Pos} (ha : SE G X C fns a ia) : SE G X C fns (.BoolOp op [a] pos) ia := fun σ H O env Q W tk er h => TM.of (pe_one (peM a)) (ha σ H O env Q W tk er h)
/-- a test whatever its whole is -/
def SW (G : Glob) (X : Cx) (C : Callee) (fns : List Fn) (e : Expr) (ir : E) : Prop := ∀ (σ : L2.St) (H : Hp) (O : Addr → Prop) (env : Env) (Q : Bool → Hp → Prop) (W : WX), Takes X W → EnvR X.K H O σ env →
  WOut G X W σ H O env (evB C fns ir env) (fun b env' => ∀ H' O', Post X.K σ None0 H O env H' O' env' → Q b H') → TMw X e σ H Q
theorem SW.st {e : Expr} {ir : E} (h : SW G X C fns e ir) : ST G X C fns e ir := fun σ H O env Q W tk er q => (h σ H O env Q W tk er q).t
theorem evB_and {ia ib : E} : evB C fns (.and ia ib) env = (evB C fns ia env).bind fun k env => if k = true then evB C fns ib env else .ok false env := by
  unfold evB
  simp only [evE]
  cases evE C fns ia env with
  | ok x env1 =>
    simp only [Res.bind]
    cases boolV x env1 with
    | ok b env2 => cases b <;> rfl
    | exc z e => rfl
    | err => rfl
  | exc x e => rfl
  | err => rfl
theorem evB_or {ia ib : E} : evB C fns (.or ia ib) env = (evB C fns ia env).bind fun k env => if k = true then .ok true env else evB C fns ib env := by
  unfold evB
  simp only [evE]
  cases evE C fns ia env with
  | ok x env1 =>
    simp only [Res.bind]
    cases boolV x env1 with
    | ok b env2 => cases b <;> rfl
    | exc z e => rfl
    | err => rfl
  | exc x e => rfl
  | err => rfl
theorem evB_ite {ic ia ib : E} : evB C fns (.ite ic ia ib) env = (evB C fns ic env).bind fun k env => if k = true then evB C fns ia env else evB C fns ib env := by
  unfold evB
  simp only [evE]
  cases evE C fns ic env with
  | ok x env1 =>
    simp only [Res.bind]
    cases boolV x env1 with
    | ok b env2 => cases b <;> rfl
    | exc z e => rfl
    | err => rfl
  | exc x e => rfl
  | err => rfl
theorem sw_and {a b : Expr} {rest : List Expr} {ia ib : E} {pos : Pos} (ha : ST G X C fns a ia) (hb : SW G X C fns (.BoolOp .And (b :: rest) pos) ib) : SW G X C fns (.BoolOp .And (a :: b :: rest) pos) (.and ia ib) := by
  intro σ H O env Q W tk er h
  rw [evB_and] at h
  refine TMw.of (pw_and (ptM a) (pwM _)) ?_
  refine ha σ H O env _ W tk er (Out.mono h.bind (fun c env1 _ h1 H1 O1 p1 => ?_) fun _ _ k => k)
  cases c with
  | true =>
    simp only [if_true] at h1 ⊢
    exact hb σ H1 O1 env1 _ W tk p1.er (WOut.behind p1 h1 fun r env2 _ h2 H2 O2 p2 => h2 _ _ (p1.then0 p2))
  | false =>
    simp only [Bool.false_eq_true, if_false] at h1 ⊢
    exact h1 _ _ p1
theorem sw_or {a b : Expr} {rest : List Expr} {ia ib : E} {pos : Pos} (ha : ST G X C fns a ia) (hb : SW G X C fns (.BoolOp .Or (b :: rest) pos) ib) : SW G X C fns (.BoolOp .Or (a :: b :: rest) pos) (.or ia ib) := by
  intro σ H O env Q W tk er h
  rw [evB_or] at h
  refine TMw.of (pw_or (ptM a) (pwM _)) ?_
  refine ha σ H O env _ W tk er (Out.mono h.bind (fun c env1 _ h1 H1 O1 p1 => ?_) fun _ _ k => k)
  cases c with
  | false =>
    simp only [Bool.false_eq_true, if_false] at h1 ⊢
    exact hb σ H1 O1 env1 _ W tk p1.er (WOut.behind p1 h1 fun r env2 _ h2 H2 O2 p2 => h2 _ _ (p1.then0 p2))
  | true =>
    simp only [if_true] at h1 ⊢
    exact h1 _ _ p1
theorem sw_and1 {a : Expr} {ia : E} {pos : Pos} (ha : ST G X C fns a ia) : SW G X C fns (.BoolOp .And [a] pos) ia := fun σ H O env Q W tk er h => TMw.of (pw_and1 (ptM a)) (ha σ H O env Q W tk er h)
theorem sw_or1 {a : Expr} {ia : E} {pos : Pos} (ha : ST G X C fns a ia) : SW G X C fns (.BoolOp .Or [a] pos) ia := fun σ H O env Q W tk er h => TMw.of (pw_or1 (ptM a)) (ha σ H O env Q W tk er h)
theorem se_ite {c a b : Expr} {ic ia ib : E} {pos : Pos} (hc : ST G X C fns c ic) (ha : SE G X C fns a ia) (hb : SE G X C fns b ib) : SE G X C fns (.IfExp c a b pos) (.ite ic ia ib) := by
  intro σ H O env Q W tk er h
  have h : WOut G X W σ H O env ((evB C fns ic env).bind fun k env => if k = true then evE C fns ia env else evE C fns ib env) (fun r env' => ∀ v H' O', RPost X.K σ H O env H' O' env' r v → Q v H') := by
    have e : evE C fns (.ite ic ia ib) env = (evB C fns ic env).bind fun k env => if k = true then evE C fns ia env else evE C fns ib env := by
      unfold evB
      simp only [evE]
      cases evE C fns ic env <;> rfl
    rw [← e]; exact h
  refine TM.of (pe_ifExp (ptM c) (peM a) (peM b)) ?_
  refine hc σ H O env _ W tk er (Out.mono h.bind (fun k env1 _ h1 H1 O1 p1 => ?_) fun _ _ k => k)
  cases k with
  | true =>
    simp only [if_true] at h1 ⊢
    exact ha σ H1 O1 env1 _ W tk p1.er (WOut.behind p1 h1 fun r env2 _ h2 v2 H2 O2 p2 => h2 _ _ _ (RPost.more p1 p2))
  | false =>
    simp only [Bool.false_eq_true, if_false] at h1 ⊢
    exact hb σ H1 O1 env1 _ W tk p1.er (WOut.behind p1 h1 fun r env2 _ h2 v2 H2 O2 p2 => h2 _ _ _ (RPost.more p1 p2))

/-! ### several expressions, displays -/
theorem sa_nil : SA G X C fns [] [] := fun σ H O env Q W tk er h => TMa.of pa_nil (by
  simp only [evEs] at h
  exact h [] H O ⟨Post.refl er, trivial, List.nodup_nil, fun a ha => nomatch ha⟩)
theorem sa_cons {e : Expr} {es : List Expr} {ir : E} {irs : List E} (hs : starEach (e :: es) X.env = (false, eval e X.env) :: starEach es X.env) (h1 : SE G X C fns e ir) (h2 : SA G X C fns es irs) : SA G X C fns (e :: es) (ir :: irs) := by
  intro σ H O env Q W tk er h
  simp only [evEs] at h
  refine TMa.of (pa_cons (peM e) (paM es) hs) ?_
  refine h1 σ H O env _ W tk er (Out.mono h.bind (fun x env1 _ g1 v H1 O1 p1 => ?_) fun _ _ k => k)
  have er1 := p1.p.er
  refine h2 σ H1 O1 env1 _ W tk er1 (WOut.behind p1.p g1.bind fun xs env2 _ g2 vs H2 O2 p2 => ?_)
  refine g2 (v :: vs) H2 O2 ⟨p1.p.then0 p2.p, ⟨p2.p.vd er1 p1.vr fun a _ z => z, p2.vr⟩, ?_, fun a ha => ?_⟩
  · refine List.nodup_append.mpr ⟨?_, p2.nd, fun a ha b hb z => ?_⟩
    · cases x with
      | fr d => cases v <;> simp [tmp]
      | fz d => rw [tmp_fz]; exact List.nodup_nil
      | bw d => rw [tmp_bw]; exact List.nodup_nil
    · obtain ⟨o, q, _⟩ := er1.dom a (VdR.tmpO p1.vr a ha)
      rw [z, p2.t b hb] at q
      cases q
  · rcases List.mem_append.mp ha with z | z
    · exact p1.t a z
    · exact p1.p.ext.free (p2.t a z)
/-- behind several results that are stored -/
theorem takes_post (er : EnvR X.K H O σ env) {rs : List Vd} {vs : List V} {H1 : Hp} {O1 : Addr → Prop} {env1 env2 : Env} {ds : List D} (p : RPosts X.K σ H O env H1 O1 env1 rs vs) (ht : takeDs rs env1 = some (ds, env2)) : ∃ O2, Post X.K σ None0 H O env H1 O2 env2 ∧ Reps X.K H1 O2 ds vs := by
  obtain ⟨O2, p2, r2⟩ := Post.takes p.p.er p.vr p.nd ht
  have q := p.p.trans p2
  exact ⟨O2, q.clean er fun a z => z.elim (fun z => z.elim) (p.t a), r2⟩
theorem se_tup {es : List Expr} {irs : List E} {k : Nat} {pos : Pos} (h : SA G X C fns es irs) : SE G X C fns (.Tuple es k pos) (.tup irs) := by
  intro σ H O env Q W tk er q
  simp only [evE] at q
  refine TM.of (pe_tup (paM es)) ?_
  refine h σ H O env _ W tk er (Out.mono q.bind (fun rs env1 _ g vs H1 O1 p1 => ?_) fun _ _ k => k)
  unfold tupV at g
  cases ht : takeDs rs env1 with
  | none => rw [ht] at g; exact (show False from g).elim
  | some pr =>
    obtain ⟨ds, env2⟩ := pr
    rw [ht] at g
    simp only at g
    obtain ⟨O2, p2, r2⟩ := takes_post er p1 ht
    by_cases hz : ds.length ≤ sizeLine
    · rw [if_pos hz] at g
      refine ⟨by rw [← r2.length]; exact hz, fun p hp => ?_⟩
      have hk := grow_new (o := .tup vs) hp
      refine g _ _ _ (RPost.more p2 (RPost.grow p2.er hk ⟨p, vs, rfl, fun z => ?_, upd_same, r2.step (fz_grow hk)⟩))
      obtain ⟨o, e, _⟩ := p2.er.dom p z
      rw [hp] at e; cases e
    · rw [if_neg hz] at g; exact (show False from g).elim
theorem se_lst {es : List Expr} {irs : List E} {pos : Pos} (h : SA G X C fns es irs) : SE G X C fns (.List es pos) (.lst irs) := by
  intro σ H O env Q W tk er q
  simp only [evE] at q
  refine TM.of (pe_lst (paM es)) ?_
  refine h σ H O env _ W tk er (Out.mono q.bind (fun rs env1 _ g vs H1 O1 p1 => ?_) fun _ _ k => k)
  unfold lstV at g
  cases ht : takeDs rs env1 with
  | none => rw [ht] at g; exact (show False from g).elim
  | some pr =>
    obtain ⟨ds, env2⟩ := pr
    rw [ht] at g
    simp only at g
    obtain ⟨O2, p2, r2⟩ := takes_post er p1 ht
    by_cases hz : ds.length ≤ sizeLine
    · rw [if_pos hz] at g
      exact ⟨by rw [← r2.length]; exact hz, fun p hp => g _ _ _ (RPost.more p2 (RPost.fresh p2.er hp fun _ _ f e => ⟨vs, e, r2.step f⟩))⟩
    · rw [if_neg hz] at g; exact (show False from g).elim
end
end PB

/-! PBe -/
/-! PB, part E: subscripts, slices, dicts written out, built-ins. -/
namespace PB
open PySem L2
variable [Tb]
section
variable {G : Glob} {X : Cx} {C : Callee} {fns : List Fn} {σ : L2.St} {H H' : Hp} {O O' : Addr → Prop} {env env' : Env} {W : WX}

theorem ixN_lt {n : Nat} {i : Int} {j : Nat} (h : ixN n i = some j) : j < n := (ixN_seq h).2.1
theorem Reps.at {K : PySem.W.Frag} {l : List D} {xs : List V} {i : Int} {d : D} (h : Reps K H O l xs) (e : atI l i = some d) : ∃ v, atI xs i = some v ∧ Rep K H O d v := by
  unfold atI at e ⊢
  rw [← h.length]
  cases q : ixN l.length i with
  | none => rw [q] at e; cases e
  | some j =>
    rw [q] at e
    obtain ⟨v, h1, h2⟩ := h.get (i := j) e
    exact ⟨v, h1, h2⟩
theorem ix_dict (hu : X.A.units + 1 < cLine) : IxR X (fun x y H Q => ∃ a v, x = .ref a ∧ DGet H a y (some v) ∧ Q v H) := by
  intro value slice pins s σ H x y v u Q I rx ry h hs
  obtain ⟨a, z, rfl, g, q⟩ := h
  cases rx
  exact PyProof.Rows.tail_any (dict_typeIs I g) PySem.F.slot_dict_getitem.lookup (d_getItem hu I g ry fun w' s3 I3 rw' => ⟨z, H, I3, rw', q⟩) hs
def rX (K : PySem.W.Frag) : R2 := fun x y H Q => ∃ (O : Addr → Prop) (a b d : D), RdR K H O a x ∧ RdR K H O b y ∧ idxD a b = some d ∧ ∀ v, Rep K H O d v → Q v H
theorem ix_all (hu : X.A.units + 1 < cLine) : IxR X (rX X.K) := by
  intro value slice pins s σ H x y v u Q I rx ry h hs
  obtain ⟨O, a, b, d, ha, hb, e, q⟩ := h
  cases a with
  | lst l =>
    cases b with
    | int i =>
      obtain ⟨p, xs, e1, s1, r1⟩ := ha.lst
      obtain ⟨z, e2, r2⟩ := r1.at (show atI l i = some d from e)
      exact ix_list value slice pins s σ H x y v u Q I rx ry ⟨p, xs, i, z, e1, hb.int, s1, e2, q z r2⟩ hs
    | _ => exact nomatch e
  | tup l =>
    cases b with
    | int i =>
      obtain ⟨p, xs, e1, s1, r1⟩ := ha.tup
      obtain ⟨z, e2, r2⟩ := r1.at (show atI l i = some d from e)
      exact ix_tup value slice pins s σ H x y v u Q I rx ry ⟨p, xs, i, z, e1, hb.int, SqT.of s1, e2, q z r2⟩ hs
    | _ => exact nomatch e
  | str l =>
    cases b with
    | int i =>
      have e : (if l.length ≤ sizeLine then (atI l.cps.toList i).map fun c => D.str ⟨#[c]⟩ else none) = some d := e
      split at e
      · rename_i hz
        cases q1 : atI l.cps.toList i with
        | none => rw [q1] at e; cases e
        | some c =>
          rw [q1] at e
          cases e
          exact ix_str value slice pins s σ H x y v u Q I rx ry ⟨l, i, c, ha.str, hb.int, hz, q1, q _ rfl⟩ hs
      · cases e
    | _ => exact nomatch e
  | dk l =>
    have e : (match keyD b with
      | some k => kget l k
      | none => none) = some d := by cases b <;> exact e
    cases qk : keyD b with
    | none => rw [qk] at e; cases e
    | some k =>
      rw [qk] at e
      obtain ⟨p, ov, e1, g, _, e3⟩ := dget_k ha hb qk
      obtain ⟨z, e4, r⟩ := e3 d e
      subst e4
      exact ix_dict hu value slice pins s σ H x y v u Q I rx ry ⟨p, z, e1, g, q z r⟩ hs
  | dt l =>
    cases b with
    | tup ds =>
      have e : (match keysD ds with
        | some k => kget l k
        | none => none) = some d := e
      cases qk : keysD ds with
      | none => rw [qk] at e; cases e
      | some k =>
        rw [qk] at e
        obtain ⟨p, ov, e1, g, _, e3⟩ := dget_t ha hb qk
        obtain ⟨z, e4, r⟩ := e3 d e
        subst e4
        exact ix_dict hu value slice pins s σ H x y v u Q I rx ry ⟨p, z, e1, g, q z r⟩ hs
    | _ => exact nomatch e
  | _ => cases b <;> exact nomatch e
theorem se_idx (hu : X.A.units + 1 < cLine) {a b : Expr} {ia ib : E} {pos : Pos} (hs : PlainIx b) (ha : SE G X C fns a ia) (hb : SE G X C fns b ib) : SE G X C fns (.Subscript a b pos) (.idx ia ib) := by
  intro σ H O env Q W tk er h
  simp only [evE] at h
  refine TM.of (pe_ix (ix_all hu) (peM a) (peM b) hs) (se_bin2 idxV ha hb (fun σ H O env x y vx vy Q e hx hy h => ?_) σ H O env Q W tk er h)
  unfold idxV at h
  cases q1 : nowD env x with
  | none => rw [q1] at h; exact (show False from h).elim
  | some a =>
    cases q2 : nowD env y with
    | none => rw [q1, q2] at h; exact (show False from h).elim
    | some b =>
      rw [q1, q2] at h
      simp only at h
      cases q3 : idxD a b with
      | none => rw [q3] at h; exact (show False from h).elim
      | some r =>
        rw [q3] at h
        exact ⟨O, a, b, r, VdR.now e hx q1, VdR.now e hy q2, q3, fun v hr => h v H O (RPost.here e hr)⟩
/-! ### slices -/
def rS (K : PySem.W.Frag) : V → Option Int → Option Int → Hp → VK → Prop := fun x lo hi H Q => ∃ (O : Addr → Prop) (a : D) (r : Bool × D), Dm H O ∧ RdR K H O a x ∧ slcD a lo hi = some r ∧ ResQ K H O r Q
theorem sl_all : SlR X (rS X.K) := by
  intro pins s σ H x v vl vu lo hi sl Q I rx hs pl pu h
  obtain ⟨O, a, r, dom, ha, e, hq⟩ := h
  cases a with
  | lst l =>
    cases some_pair e
    obtain ⟨p, xs, e1, s1, r1⟩ := ha.lst
    exact sl_list pins s σ H x v vl vu lo hi sl Q I rx hs pl pu ⟨p, xs, e1, s1, fun q hp => hq.lst hp (r1.cut lo hi)⟩
  | tup l =>
    cases some_pair e
    have ha' := ha
    obtain ⟨p, xs, e1, s1, r1⟩ := ha.tup
    refine sl_tupA pins s σ H x v vl vu lo hi sl Q I rx hs pl pu ⟨p, xs, e1, SqT.of s1, fun z => ?_, fun _ q hp => hq.tup dom hp (r1.cut lo hi)⟩
    have ec : cutD l lo hi = l := by
      unfold cutD
      rw [r1.length, z.1, z.2]
      rw [List.drop_zero, Nat.sub_zero, ← r1.length, List.take_length]
    rw [ec] at hq
    rw [← e1]
    exact hq.here (ha'.elim (fun z => z) fun ⟨_, _, z⟩ => (show False from z).elim)
  | str l =>
    have e : (if l.length ≤ sizeLine then fzR (.str (cutS l lo hi)) else none) = some r := e
    split at e
    · rename_i hz
      cases some_pair e
      exact sl_str pins s σ H x v vl vu lo hi sl Q I rx hs pl pu ⟨l, ha.str, hz, hq.sc rfl⟩
    · cases e
  | _ => exact nomatch e
def TMo (X : Cx) (e : Option Expr) (σ : L2.St) (H : Hp) (Q : Option Int → Hp → Prop) : Prop := ∀ (pins : List (Addr × Obj)) (s : Shared), Inv X pins σ H s → wpAny (model X.prog X.w) X.A (evalPart e X.env) (fun u s' => ∃ o H', Inv X pins σ H' s' ∧ IsPart u o ∧ Q o H') X.xe s
theorem poM (e : Option Expr) : PO X e (TMo X e) := ⟨fun pins s _ _ _ I h => h pins s I⟩
def SO (G : Glob) (X : Cx) (C : Callee) (fns : List Fn) (e : Option Expr) (ir : Option E) : Prop := ∀ (σ : L2.St) (H : Hp) (O : Addr → Prop) (env : Env) (Q : Option Int → Hp → Prop) (W : WX), Takes X W → EnvR X.K H O σ env →
  WOut G X W σ H O env (evP C fns ir env) (fun r env' => ∀ H' O', Post X.K σ None0 H O env H' O' env' → Q r H') → TMo X e σ H Q
theorem so_none : SO G X C fns none none := fun σ H O env Q W tk er h pins s I => (po_none (X := X)).run pins s σ H Q I (by
  simp only [evP] at h
  exact h H O (Post.refl er))
theorem so_some {e : Expr} {ir : E} (h : SE G X C fns e ir) : SO G X C fns (some e) (some ir) := fun σ H O env Q W tk er q pins s I => (po_some (peM e)).run pins s σ H Q I (by
  simp only [evP] at q
  refine h σ H O env _ W tk er (Out.mono q.bind (fun x env1 _ h1 v H1 O1 p1 => ?_) fun _ _ k => k)
  cases x with
  | fz d =>
    cases d with
    | int i =>
      have hv : v = .int i := p1.vr
      exact ⟨i, hv, h1 H1 O1 p1.p⟩
    | _ => exact (show False from h1).elim
  | _ => exact (show False from h1).elim)
theorem se_slc {a : Expr} {lo hi : Option Expr} {ia : E} {il ih : Option E} {p2 pos : Pos} (ha : SE G X C fns a ia) (hl : SO G X C fns lo il) (hh : SO G X C fns hi ih) : SE G X C fns (.Subscript a (.Slice lo hi none p2) pos) (.slc ia il ih) := by
  intro σ H O env Q W tk er h
  simp only [evE] at h
  refine TM.of (pe_slice sl_all (peM a) (poM lo) (poM hi)) ?_
  refine ha σ H O env _ W tk er (Out.mono h.bind (fun x env1 _ h1 v H1 O1 p1 => ?_) fun _ _ k => k)
  have er1 := p1.p.er
  refine hl σ H1 O1 env1 _ W tk er1 (WOut.behind p1.p h1.bind fun l env2 _ h2 H2 O2 p2 => ?_)
  have p12 := p1.p.then0 p2
  refine hh σ H2 O2 env2 _ W tk p2.er (WOut.behind p12 h2.bind fun u env3 _ h3 H3 O3 p3 => ?_)
  have v2 := p2.vd er1 p1.vr fun a _ z => z
  have v3 := p3.vd p2.er v2 fun a _ z => z
  unfold slcV at h3
  cases q1 : nowD env3 x with
  | none => rw [q1] at h3; exact (show False from h3).elim
  | some a =>
    rw [q1] at h3
    simp only at h3
    cases q2 : slcD a l u with
    | none => rw [q2] at h3; exact (show False from h3).elim
    | some r =>
      rw [q2] at h3
      exact ⟨O3, a, r, p3.er.dom, VdR.now p3.er v3 q1, q2, ResQ.of p3.er fun v H4 O4 p4 => h3 v H4 O4 (RPost.more (p12.then0 p3) p4)⟩

/-- a thing that nobody else holds is changed -/
theorem Post.poke {p : Addr} {o : HO} (e : EnvR X.K H O σ env) (hO : O p) (hR : ¬ Root σ env p) (hn : Pl o) : Post X.K σ (fun a => a = p) H O env (upd H p o) O env := by
  have f : Fz H O (upd H p o) O := ⟨fun a u h n _ => by rw [upd_ne (fun z => n (by rw [z]; exact hO))]; exact h, fun _ h => .inl h, fun a u h => (by
    by_cases z : a = p
    · exact ⟨o, by rw [z, upd_same]⟩
    · exact ⟨u, by rw [upd_ne z]; exact h⟩)⟩
  refine ⟨⟨fun a u h n _ => by rw [upd_ne (fun z => n (.inr z))]; exact h, fun a u h => ?_⟩, ⟨e.len, fun i d h => ?_, fun i d h => ?_, e.apart, ⟨fun a h => ?_, tabs_upd (e.dom p hO) e.dom.tb, sm_upd (e.dom p hO) e.dom.sm⟩⟩, fun _ h => .inl h, fun _ h _ _ => h, fun _ h => h, fun a z => .inl (by rw [z]; exact hO), fun _ => Iff.rfl⟩
  · by_cases z : a = p
    · rw [z]; exact ⟨_, upd_same⟩
    · rw [upd_ne z]; exact ⟨u, h⟩
  · obtain ⟨v, h1, h2⟩ := e.val i d h
    exact ⟨v, h1, Rep.step f d v h2⟩
  · obtain ⟨a, h1, h2, h3⟩ := e.own i d h
    exact ⟨a, h1, h2, h3.step f fun u q _ => by rw [upd_ne (fun z => hR ⟨i, d, h, by rw [← z]; exact h1⟩)]; exact q⟩
  · by_cases z : a = p
    · rw [z]; exact ⟨_, upd_same, hn⟩
    · obtain ⟨u, h1, h2⟩ := e.dom a h
      exact ⟨u, by rw [upd_ne z]; exact h1, h2⟩
/-! ### {k: v, ..} with written texts for keys -/
theorem zipFold {K : PySem.W.Frag} : ∀ (ks : List Str) (ds : List D) (vs : List V) (acc : List (Key × D)) (kvs : List (Key × V)), ks.length = ds.length → Reps K H O ds vs → Repk K H O acc kvs →
    Repk K H O ((ks.zip ds).foldl (fun acc p => kput acc (.inr p.1) p.2) acc) (mergeK kvs ((ks.zip vs).map fun p => (Sum.inr p.1, p.2)))
  | [], ds, vs, acc, kvs, hl, hr, ha => by
    have hd : ds = [] := List.length_eq_zero_iff.mp hl.symm
    subst hd
    have hv : vs = [] := hr
    subst hv
    exact ha
  | k :: ks, [], vs, acc, kvs, hl, hr, ha => nomatch hl
  | k :: ks, d :: ds, vs, acc, kvs, hl, hr, ha => by
    obtain ⟨x, r, e1, h1, h2⟩ : ∃ x r, vs = x :: r ∧ Rep K H O d x ∧ Reps K H O ds r := hr
    subst e1
    exact zipFold ks ds r _ _ (Nat.succ.inj hl) h2 (ha.put h1)
/-- the pairs, one by one -/
theorem pairs_run {es : List Expr} {irs : List E} (h : Paired (SE G X C fns) es irs) : ∀ (ks : List Str) (σ : L2.St) (H : Hp) (O : Addr → Prop) (env : Env) (Q : List (V × V) → Hp → Prop) (W : WX), ks.length = es.length → Takes X W → EnvR X.K H O σ env →
    WOut G X W σ H O env (evEs C fns irs env) (fun rs env' => ∀ vs H' O', RPosts X.K σ H O env H' O' env' rs vs → Q ((ks.zip vs).map fun p => (V.str p.1, p.2)) H') → tPairs ((ks.zip es).map fun p => (tC (.str p.1), TM X p.2)) σ H Q := by
  induction h with
  | nil =>
    intro ks σ H O env Q W hl tk er q
    have hk : ks = [] := List.length_eq_zero_iff.mp hl
    subst hk
    simp only [evEs] at q
    exact q [] H O ⟨Post.refl er, trivial, List.nodup_nil, fun a ha => nomatch ha⟩
  | @cons e ir es irs h1 h2 ih =>
    intro ks σ H O env Q W hl tk er q
    cases ks with
    | nil => exact nomatch hl
    | cons k ks =>
      simp only [evEs] at q
      show tC (.str k) σ H _
      refine h1 σ H O env _ W tk er (Out.mono q.bind (fun x env1 _ g1 v H1 O1 p1 => ?_) fun _ _ k => k)
      have er1 := p1.p.er
      refine ih ks σ H1 O1 env1 _ W (Nat.succ.inj hl) tk er1 (WOut.behind p1.p g1.bind fun xs env2 _ g2 vs H2 O2 p2 => ?_)
      refine g2 (v :: vs) H2 O2 ⟨p1.p.then0 p2.p, ⟨p2.p.vd er1 p1.vr fun a _ z => z, p2.vr⟩, ?_, fun a ha => ?_⟩
      · refine List.nodup_append.mpr ⟨?_, p2.nd, fun a ha b hb z => ?_⟩
        · cases x with
          | fr d => cases v <;> simp [tmp]
          | fz d => rw [tmp_fz]; exact List.nodup_nil
          | bw d => rw [tmp_bw]; exact List.nodup_nil
        · obtain ⟨o, q, _⟩ := er1.dom a (VdR.tmpO p1.vr a ha)
          rw [z, p2.t b hb] at q
          cases q
      · rcases List.mem_append.mp ha with z | z
        · exact p1.t a z
        · exact p1.p.ext.free (p2.t a z)
theorem pps_all {pos : Pos} : ∀ (ks : List Str) (js : List (Nat × Pos)) (es : List Expr), ks.length = es.length → ks.length = js.length → PPs X pos ((ks.zip js).map fun p => some (.Constant (.str p.1) p.2.1 p.2.2)) es ((ks.zip es).map fun p => (tC (.str p.1), TM X p.2))
  | [], js, es, h1, h2 => by
    have e1 : es = [] := List.length_eq_zero_iff.mp h1.symm
    subst e1
    exact pps_nil
  | k :: ks, [], es, h1, h2 => nomatch h2
  | k :: ks, j :: js, [], h1, h2 => nomatch h1
  | k :: ks, j :: js, e :: es, h1, h2 => pps_cons pe_str (peM e) (pps_all ks js es (Nat.succ.inj h1) (Nat.succ.inj h2))
theorem se_dct {ks : List Str} {js : List (Nat × Pos)} {es : List Expr} {irs : List E} {pos : Pos} (h : Paired (SE G X C fns) es irs) (h0 : ks ≠ []) (h1 : ks.length = es.length) (h2 : ks.length = js.length) (h15 : ks.length ≤ 15) :
    SE G X C fns (.Dict ((ks.zip js).map fun p => some (.Constant (.str p.1) p.2.1 p.2.2)) es pos) (.dct ks irs) := by
  intro σ H O env Q W tk er q
  simp only [evE] at q
  have hlen : ((ks.zip js).map fun p => (some (Expr.Constant (.str p.1) p.2.1 p.2.2) : Option Expr)).length = ks.length := by rw [List.length_map, List.length_zip]; omega
  refine TM.of (pe_disp (pps_all ks js es h1 h2) (by simp) (by rw [hlen, h1]) (fun z => h0 (List.length_eq_zero_iff.mp (by rw [← hlen, z]; rfl))) (by rw [hlen]; exact h15)) ?_
  intro p hp
  have hk := grow_new (o := HO.dK []) hp
  have p0 := Post.more er hk hp ⟨_, upd_same, pl_dK⟩
  have hpr : ¬ Root σ env p := er.notRoot hp
  refine pairs_run h ks σ _ _ env _ W h1 tk p0.er (WOut.behind p0 q.bind fun rs env1 _ g vs H1 O1 p1 => ?_)
  have e1 : H1 p = some (.dK []) := p1.p.ext.keep p _ upd_same (fun z => z.elim hpr id) pl_dK.2.1
  unfold dctV at g
  cases ht : takeDs rs env1 with
  | none => rw [ht] at g; exact (show False from g).elim
  | some pr =>
    obtain ⟨ds, env2⟩ := pr
    rw [ht] at g
    simp only at g
    obtain ⟨O2, p2, r2⟩ := takes_post p0.er p1 ht
    by_cases hz : ks.length = ds.length ∧ ds.length ≤ 15
    · rw [if_pos hz] at g
      refine ⟨e1, (ks.zip vs).map fun p => (Sum.inr p.1, p.2), ?_, ?_, ?_⟩
      · rw [List.map_map]; rfl
      · rw [List.length_map, List.length_zip]; omega
      · have hO2 : O2 p := p2.hold p (.inl rfl) hpr id
        have nR2 : ¬ Root σ env2 p := fun z => hpr (p2.root p z)
        have p3 := Post.poke (o := .dK (mergeK [] ((ks.zip vs).map fun p => (Sum.inr p.1, p.2)))) p2.er hO2 nR2 pl_dK
        have p4 := ((p0.then0 p2).trans p3).clean er fun a z => z.elim (fun z => z.elim) fun z => by rw [z]; exact hp
        refine g _ _ O2 ⟨p4, ⟨p, rfl, hO2, nR2, _, upd_same, ?_⟩, fun a ha => ?_⟩
        · exact zipFold ks ds vs [] [] hz.1 (r2.step (p3.fz p2.er)) rfl
        · have z : a = p := by simpa [tmp] using ha
          rw [z]; exact hp
    · rw [if_neg hz] at g; exact (show False from g).elim

/-! ### built-ins -/
def rBl (K : PySem.W.Frag) (b : Blt) : List V → Hp → VK → Prop := fun xs H Q => ∃ (O : Addr → Prop) (ds : List D) (r : Bool × D), Dm H O ∧ RdRs K H O ds xs ∧ bltD b ds = some r ∧ ResQ K H O r Q
theorem rds1 {K : PySem.W.Frag} {d : D} {xs : List V} (h : RdRs K H O [d] xs) : ∃ x, xs = [x] ∧ RdR K H O d x := by
  match xs, h with
  | [x], h => exact ⟨x, rfl, h.1⟩
theorem rds2 {K : PySem.W.Frag} {d e : D} {xs : List V} (h : RdRs K H O [d, e] xs) : ∃ x y, xs = [x, y] ∧ RdR K H O d x ∧ RdR K H O e y := by
  match xs, h with
  | [x, y], h => exact ⟨x, y, rfl, h.1, h.2.1⟩
theorem blt_of {f : Value} {b : Blt} (h : ∀ (xs : List V) (H : Hp) (O : Addr → Prop) (ds : List D) (r : Bool × D) (Q : VK), Dm H O → RdRs X.K H O ds xs → bltD b ds = some r → ResQ X.K H O r Q → ∃ r2, CallR X f r2 ∧ r2 xs H Q) : CallR X f (rBl X.K b) := by
  intro pins s σ H xs us Q I rx q
  obtain ⟨O, ds, r, dom, ha, e, hq⟩ := q
  obtain ⟨r2, ho, h2⟩ := h xs H O ds r Q dom ha e hq
  exact ho pins s σ H xs us Q I rx h2
theorem cb_len : CallR X (.builtin "len") (rBl X.K .len) := by
  refine blt_of fun xs H O ds r Q dom ha e hq => ?_
  match ds, e, ha with
  | [.lst l], e, ha =>
    cases some_pair e
    obtain ⟨x, rfl, h⟩ := rds1 ha
    obtain ⟨p, ys, rfl, s1, r1⟩ := h.lst
    exact ⟨_, call_len_seq, p, ys, rfl, .inl s1, by rw [← r1.length]; exact hq.sc rfl⟩
  | [.tup l], e, ha =>
    cases some_pair e
    obtain ⟨x, rfl, h⟩ := rds1 ha
    obtain ⟨p, ys, rfl, s1, r1⟩ := h.tup
    exact ⟨_, call_len_seq, p, ys, rfl, .inr (SqT.of s1), by rw [← r1.length]; exact hq.sc rfl⟩
  | [.str z], e, ha =>
    have e : (if z.length ≤ sizeLine then fzR (.int z.length) else none) = some r := e
    split at e
    · rename_i hz
      cases some_pair e
      obtain ⟨x, rfl, h⟩ := rds1 ha
      exact ⟨_, call_len_str, z, by rw [h.str], hz, hq.sc rfl⟩
    · cases e
  | [.dk l], e, ha =>
    cases some_pair e
    obtain ⟨x, rfl, h⟩ := rds1 ha
    obtain ⟨p, ys, rfl, s1, r1⟩ := h.dk
    exact ⟨_, call_lenD, p, ys, rfl, s1, by rw [← r1.length]; exact hq.sc rfl⟩
theorem cb_abs : CallR X (.builtin "abs") (rBl X.K .abs) := by
  refine blt_of fun xs H O ds r Q dom ha e hq => ?_
  match ds, e, ha with
  | [.int i], e, ha =>
    cases some_pair e
    obtain ⟨x, rfl, h⟩ := rds1 ha
    exact ⟨_, call_abs, i, by rw [h.int], hq.sc rfl⟩
theorem cb_max2 (hc : X.calm = true) : CallR X (.builtin "max") (rBl X.K .max2) := by
  refine blt_of fun xs H O ds r Q dom ha e hq => ?_
  match ds, e, ha with
  | [.int i, .int j], e, ha =>
    cases some_pair e
    obtain ⟨x, y, rfl, h1, h2⟩ := rds2 ha
    exact ⟨_, call_max2 hc, i, j, by rw [h1.int, h2.int], hq.sc rfl⟩
theorem cb_min2 (hc : X.calm = true) : CallR X (.builtin "min") (rBl X.K .min2) := by
  refine blt_of fun xs H O ds r Q dom ha e hq => ?_
  match ds, e, ha with
  | [.int i, .int j], e, ha =>
    cases some_pair e
    obtain ⟨x, y, rfl, h1, h2⟩ := rds2 ha
    exact ⟨_, call_min2 hc, i, j, by rw [h1.int, h2.int], hq.sc rfl⟩
theorem maxI_mem : ∀ (r : List Int) (m : Int), (maxI m r = m ∨ maxI m r ∈ r) ∧ m ≤ maxI m r ∧ ∀ y ∈ r, y ≤ maxI m r
  | [], m => ⟨.inl rfl, Int.le_refl _, fun y hy => nomatch hy⟩
  | x :: r, m => by
    obtain ⟨h1, h2, h3⟩ := maxI_mem r (if m < x then x else m)
    have e : maxI m (x :: r) = maxI (if m < x then x else m) r := rfl
    rw [e]
    refine ⟨?_, ?_, fun y hy => ?_⟩
    · rcases h1 with h1 | h1
      · rw [h1]
        by_cases hx : m < x
        · rw [if_pos hx]; exact .inr List.mem_cons_self
        · rw [if_neg hx]; exact .inl rfl
      · exact .inr (List.mem_cons_of_mem _ h1)
    · by_cases hx : m < x
      · rw [if_pos hx] at h2 ⊢; omega
      · rw [if_neg hx] at h2 ⊢; exact h2
    · rcases List.mem_cons.mp hy with z | z
      · rw [z]
        by_cases hx : m < x
        · rw [if_pos hx] at h2 ⊢; exact h2
        · rw [if_neg hx] at h2 ⊢; omega
      · exact h3 y z
theorem minI_mem : ∀ (r : List Int) (m : Int), (minI m r = m ∨ minI m r ∈ r) ∧ minI m r ≤ m ∧ ∀ y ∈ r, minI m r ≤ y
  | [], m => ⟨.inl rfl, Int.le_refl _, fun y hy => nomatch hy⟩
  | x :: r, m => by
    obtain ⟨h1, h2, h3⟩ := minI_mem r (if x < m then x else m)
    have e : minI m (x :: r) = minI (if x < m then x else m) r := rfl
    rw [e]
    refine ⟨?_, ?_, fun y hy => ?_⟩
    · rcases h1 with h1 | h1
      · rw [h1]
        by_cases hx : x < m
        · rw [if_pos hx]; exact .inr List.mem_cons_self
        · rw [if_neg hx]; exact .inl rfl
      · exact .inr (List.mem_cons_of_mem _ h1)
    · by_cases hx : x < m
      · rw [if_pos hx] at h2 ⊢; omega
      · rw [if_neg hx] at h2 ⊢; exact h2
    · rcases List.mem_cons.mp hy with z | z
      · rw [z]
        by_cases hx : x < m
        · rw [if_pos hx] at h2 ⊢; exact h2
        · rw [if_neg hx] at h2 ⊢; omega
      · exact h3 y z
theorem cb_maxL (hc : X.calm = true) : CallR X (.builtin "max") (rBl X.K .maxL) := by
  refine blt_of fun xs H O ds r Q dom ha e hq => ?_
  match ds, e, ha with
  | [.lst l], e, ha =>
    have e : (match intsOf l with
      | some (x :: r) => fzR (.int (maxI x r))
      | _ => none) = some r := e
    cases q : intsOf l with
    | none => rw [q] at e; cases e
    | some ns =>
      cases ns with
      | nil => rw [q] at e; cases e
      | cons n ns =>
        rw [q] at e
        cases some_pair e
        obtain ⟨x, rfl, h⟩ := rds1 ha
        obtain ⟨p, ys, rfl, s1, r1⟩ := h.lst
        refine ⟨_, cr_max hc, p, n :: ns, rfl, by rw [← r1.ints q]; exact s1, Nat.succ_pos _, fun m hm hle => ?_⟩
        obtain ⟨h1, h2, h3⟩ := maxI_mem ns n
        have e1 : m = maxI n ns := by
          have a1 : m ≤ maxI n ns := (List.mem_cons.mp hm).elim (fun z => by rw [z]; exact h2) fun z => h3 m z
          have a2 : maxI n ns ≤ m := hle _ (h1.elim (fun z => by rw [z]; exact List.mem_cons_self) fun z => List.mem_cons_of_mem _ z)
          omega
        rw [e1]
        exact hq.sc rfl
theorem cb_minL (hc : X.calm = true) : CallR X (.builtin "min") (rBl X.K .minL) := by
  refine blt_of fun xs H O ds r Q dom ha e hq => ?_
  match ds, e, ha with
  | [.lst l], e, ha =>
    have e : (match intsOf l with
      | some (x :: r) => fzR (.int (minI x r))
      | _ => none) = some r := e
    cases q : intsOf l with
    | none => rw [q] at e; cases e
    | some ns =>
      cases ns with
      | nil => rw [q] at e; cases e
      | cons n ns =>
        rw [q] at e
        cases some_pair e
        obtain ⟨x, rfl, h⟩ := rds1 ha
        obtain ⟨p, ys, rfl, s1, r1⟩ := h.lst
        refine ⟨_, cr_min hc, p, n :: ns, rfl, by rw [← r1.ints q]; exact s1, Nat.succ_pos _, fun m hm hle => ?_⟩
        obtain ⟨h1, h2, h3⟩ := minI_mem ns n
        have e1 : m = minI n ns := by
          have a1 : minI n ns ≤ m := (List.mem_cons.mp hm).elim (fun z => by rw [z]; exact h2) fun z => h3 m z
          have a2 : m ≤ minI n ns := hle _ (h1.elim (fun z => by rw [z]; exact List.mem_cons_self) fun z => List.mem_cons_of_mem _ z)
          omega
        rw [e1]
        exact hq.sc rfl
theorem cb_sum (hc : X.calm = true) : CallR X (.builtin "sum") (rBl X.K .sum) := by
  refine blt_of fun xs H O ds r Q dom ha e hq => ?_
  match ds, e, ha with
  | [.lst l], e, ha =>
    have e : (match intsOf l with
      | some r => fzR (.int r.sum)
      | _ => none) = some r := e
    cases q : intsOf l with
    | none => rw [q] at e; cases e
    | some ns =>
      rw [q] at e
      cases some_pair e
      obtain ⟨x, rfl, h⟩ := rds1 ha
      obtain ⟨p, ys, rfl, s1, r1⟩ := h.lst
      exact ⟨_, cr_sum hc, p, ns, rfl, by rw [← r1.ints q]; exact s1, hq.sc rfl⟩
theorem cb_all (hc : X.calm = true) : CallR X (.builtin "all") (rBl X.K .all) := by
  refine blt_of fun xs H O ds r Q dom ha e hq => ?_
  match ds, e, ha with
  | [.lst l], e, ha =>
    have e : (match boolsOf l with
      | some r => fzR (.bl (r.all id))
      | _ => none) = some r := e
    cases q : boolsOf l with
    | none => rw [q] at e; cases e
    | some ns =>
      rw [q] at e
      cases some_pair e
      obtain ⟨x, rfl, h⟩ := rds1 ha
      obtain ⟨p, ys, rfl, s1, r1⟩ := h.lst
      exact ⟨_, cr_all hc, p, ns, rfl, by rw [← r1.bools q]; exact s1, hq.sc rfl⟩
theorem cb_any (hc : X.calm = true) : CallR X (.builtin "any") (rBl X.K .any) := by
  refine blt_of fun xs H O ds r Q dom ha e hq => ?_
  match ds, e, ha with
  | [.lst l], e, ha =>
    have e : (match boolsOf l with
      | some r => fzR (.bl (r.any id))
      | _ => none) = some r := e
    cases q : boolsOf l with
    | none => rw [q] at e; cases e
    | some ns =>
      rw [q] at e
      cases some_pair e
      obtain ⟨x, rfl, h⟩ := rds1 ha
      obtain ⟨p, ys, rfl, s1, r1⟩ := h.lst
      exact ⟨_, cr_any hc, p, ns, rfl, by rw [← r1.bools q]; exact s1, hq.sc rfl⟩
theorem cb_int : CallR X (.type "int") (rBl X.K .int) := by
  refine blt_of fun xs H O ds r Q dom ha e hq => ?_
  match ds, e, ha with
  | [.int i], e, ha =>
    cases some_pair e
    obtain ⟨x, rfl, h⟩ := rds1 ha
    exact ⟨_, call_int1, .inl ⟨i, by rw [h.int], hq.sc rfl⟩⟩
  | [.bl b], e, ha =>
    cases some_pair e
    obtain ⟨x, rfl, h⟩ := rds1 ha
    exact ⟨_, call_int1, .inr ⟨b, by rw [h.bl], hq.sc rfl⟩⟩
  | [.str a], e, ha =>
    have e : (match PySem.intText? a with
      | some n => if a.length ≤ 640 then fzR (.int n) else none
      | none => none) = some r := e
    cases qt : PySem.intText? a with
    | none => rw [qt] at e; cases e
    | some n =>
      rw [qt] at e
      simp only at e
      split at e
      · rename_i hz
        cases some_pair e
        obtain ⟨x, rfl, h⟩ := rds1 ha
        exact ⟨_, call_int_str, a, n, by rw [h.str], qt, hz, hq.sc rfl⟩
      · cases e
theorem cb_str : CallR X (.type "str") (rBl X.K .str) := by
  refine blt_of fun xs H O ds r Q dom ha e hq => ?_
  match ds, e, ha with
  | [.int i], e, ha =>
    have e : (if i.natAbs.log2 < 1920 then fzR (.str (toString i)) else none) = some r := e
    split at e
    · rename_i hz
      cases some_pair e
      obtain ⟨x, rfl, h⟩ := rds1 ha
      exact ⟨_, call_str_int, i, by rw [h.int], hz, hq.sc rfl⟩
    · cases e
  | [.str a], e, ha =>
    cases some_pair e
    obtain ⟨x, rfl, h⟩ := rds1 ha
    exact ⟨_, SkE.call_str_str, a, by rw [h.str], hq.sc rfl⟩
theorem cb_list : CallR X (.type "list") (rBl X.K .list) := by
  refine blt_of fun xs H O ds r Q dom ha e hq => ?_
  match ds, e, ha with
  | [.lst l], e, ha =>
    cases some_pair e
    obtain ⟨x, rfl, h⟩ := rds1 ha
    obtain ⟨p, ys, rfl, s1, r1⟩ := h.lst
    exact ⟨_, call_list_of, p, ys, rfl, .inl s1, fun q hp => hq.lst hp r1⟩
  | [.tup l], e, ha =>
    cases some_pair e
    obtain ⟨x, rfl, h⟩ := rds1 ha
    obtain ⟨p, ys, rfl, s1, r1⟩ := h.tup
    exact ⟨_, call_list_of, p, ys, rfl, .inr (SqT.of s1), fun q hp => hq.lst hp r1⟩
theorem cb_tuple : CallR X (.type "tuple") (rBl X.K .tuple) := by
  refine blt_of fun xs H O ds r Q dom ha e hq => ?_
  match ds, e, ha with
  | [.lst l], e, ha =>
    cases some_pair e
    obtain ⟨x, rfl, h⟩ := rds1 ha
    obtain ⟨p, ys, rfl, s1, r1⟩ := h.lst
    exact ⟨_, call_tuple_of, p, ys, rfl, .inl ⟨s1, fun q hp => hq.tup dom hp r1⟩⟩
  | [.tup l], e, ha =>
    cases some_pair e
    obtain ⟨x, rfl, h⟩ := rds1 ha
    have h' := h
    obtain ⟨p, ys, rfl, s1, r1⟩ := h.tup
    exact ⟨_, call_tuple_of, p, ys, rfl, .inr ⟨SqT.of s1, hq.here (h'.elim (fun z => z) fun ⟨_, _, z⟩ => (show False from z).elim)⟩⟩
end
end PB

/-! PBf -/
/-! PB, part F: isinstance, repr, list(range ..); calls of built-ins. -/
namespace PB
open PySem L2
variable [Tb]
section
variable {G : Glob} {X : Cx} {C : Callee} {fns : List Fn} {σ : L2.St} {H H' : Hp} {O O' : Addr → Prop} {env env' : Env} {W : WX}

/-! ### isinstance -/
def tyN : D → String
  | .non => "NoneType"
  | .bl _ => "bool"
  | .int _ => "int"
  | .str _ => "str"
  | .tup _ => "tuple"
  | .lst _ => "list"
  | _ => "dict"
def Ty.name : Ty → String
  | .int => "int"
  | .bool => "bool"
  | .tuple => "tuple"
  | .str => "str"
  | .list => "list"
theorem kit_all : (["NoneType", "bool", "int", "str", "tuple", "list", "dict"].all fun a => [Ty.int, .bool, .tuple, .str, .list].all fun t => kitB a t.name == some (match t, a with
    | .int, "int" => true
    | .int, "bool" => true
    | .bool, "bool" => true
    | .tuple, "tuple" => true
    | .str, "str" => true
    | .list, "list" => true
    | _, _ => false)) = true := by decide +kernel
theorem kit_one {d : D} (h : tyOk d = true) (t : Ty) : kitB (tyN d) t.name = some (isTy t d) := by
  have k := kit_all
  rw [List.all_eq_true] at k
  have k1 : tyN d ∈ ["NoneType", "bool", "int", "str", "tuple", "list", "dict"] := by cases d <;> simp [tyN]
  have k2 := k _ k1
  rw [List.all_eq_true] at k2
  have k3 : t ∈ [Ty.int, .bool, .tuple, .str, .list] := by cases t <;> simp
  have k4 := k2 _ k3
  rw [beq_iff_eq] at k4
  rw [k4]
  cases t <;> cases d <;> first | rfl | exact nomatch h
theorem ty_of {K : PySem.W.Frag} {d : D} {v : V} (h : RdR K H O d v) (ho : tyOk d = true) : TyX K H v (.type (tyN d)) := by
  cases d with
  | non => rw [h.non]; exact .base .non
  | bl b => rw [h.bl]; exact .base (.bl b)
  | int b => rw [h.int]; exact .base (.int b)
  | str b => rw [h.str]; exact .base (.str b)
  | tup l => obtain ⟨a, xs, e, s, _⟩ := h.tup; rw [e]; exact .base (.tup s)
  | lst l =>
    obtain ⟨a, xs, e, s, _⟩ := h.lst
    rw [e]
    rcases s with (s | ⟨o, s⟩) | ⟨o, its, n, hk, hc, _⟩
    · exact .base (.lst s)
    · exact .base (.frz s)
    · exact .kList hk hc
  | dk l => obtain ⟨a, xs, e, s, _⟩ := h.dk; rw [e]; exact .base (.dK s)
  | _ => exact nomatch ho
/-- behind the argument: a second one is a class -/
theorem isi_run {t : Ty} {x : V} {Q : VK} (h : rBl X.K (.isi t) [x] H Q) : rIsi X.K [x, .ty t.name] H Q := by
  obtain ⟨O, ds, r, dom, ha, e, hq⟩ := h
  match ds, e, ha with
  | [d], e, ha =>
    have e : (if tyOk d then fzR (.bl (isTy t d)) else none) = some r := e
    split at e
    · rename_i ho
      cases some_pair e
      exact ⟨x, _, _, _, _, rfl, .ty _, ty_of ha.1 ho, kit_ty (kit_one ho t), hq.sc rfl⟩
    · cases e

/-! ### repr -/
theorem canLay_shows : ∀ d : D, shows d = true → True := fun _ _ => trivial
/-- a list's place is none of the modules' dict -/
theorem list_ns {s : Shared} {pins : List (Addr × Obj)} {a : Addr} {o : Obj} (I : Inv X pins σ H s) (sm : SmOk H) (g : s.heap.get? a = some o) (hc : o.cls = .type "list") : sysModules ≠ a := fun z => by
  obtain ⟨o', e, hc'⟩ := sm
  have x : ObjOk X.prog X.w H s.heap sysModules (.frz o' (.own 0)) := I.hok _ _ e
  have g' := x.1
  rw [z, g] at g'
  cases g'
  rw [hc] at hc'
  exact absurd hc' (by decide)
theorem readsAll_of {s : Shared} {pins : List (Addr × Obj)} {l : List D} (I : Inv X pins σ H s) (ih : ∀ d ∈ l, ∀ v u, shows d = true → Rep X.K H O d v → RelV v u → ∃ as, Reads s.heap u (toPy d) as ∧ sysModules ∉ as) :
    ∀ {xs : List V} {us : List Value}, showss l = true → Reps X.K H O l xs → Vals xs us → ∃ as, ReadsAll s.heap us (toPys l) as ∧ sysModules ∉ as := by
  induction l with
  | nil =>
    intro xs us _ h r
    have h : xs = [] := h
    subst h
    cases r
    exact ⟨_, .nil, fun z => nomatch z⟩
  | cons d ds i =>
    intro xs us hs h r
    obtain ⟨x, rr, e, h1, h2⟩ : ∃ x r, xs = x :: r ∧ Rep X.K H O d x ∧ Reps X.K H O ds r := h
    subst e
    have hs : (shows d && showss ds) = true := hs
    rw [Bool.and_eq_true] at hs
    cases r with
    | cons r1 r2 =>
      obtain ⟨as, q1, n1⟩ := ih d List.mem_cons_self x _ hs.1 h1 r1
      obtain ⟨bs, q2, n2⟩ := i (fun d hd => ih d (List.mem_cons_of_mem _ hd)) hs.2 h2 r2
      exact ⟨_, .cons q1 q2, fun z => (List.mem_append.mp z).elim n1 n2⟩
theorem reads_list {s : Shared} {pins : List (Addr × Obj)} {l : List D} {a : Addr} {xs : List V} (I : Inv X pins σ H s) (sm : SmOk H) (hs : SqL X.K H a xs) (h : ∀ us, Vals xs us → ∃ as, ReadsAll s.heap us (toPys l) as ∧ sysModules ∉ as) :
    ∃ as, Reads s.heap (.ref a) (toPy (.lst l)) as ∧ sysModules ∉ as := by
  obtain ⟨its, rv, ⟨o, n, g, hc, hd, ht⟩, _⟩ := I.list hs
  obtain ⟨as, q, nq⟩ := h its rv
  exact ⟨_, .list g hc ht (by simpa using q), fun z => (List.mem_cons.mp z).elim (list_ns I sm g hc) nq⟩
theorem reads_dk {s : Shared} {pins : List (Addr × Obj)} {a : Addr} {xs : List (Key × V)} (I : Inv X pins σ H s) (e : H a = some (.dK xs)) (hx : xs = []) : ∃ as, Reads s.heap (.ref a) (toPy (.dk [])) as ∧ sysModules ∉ as := by
  subst hx
  obtain ⟨_, hS, vs, kv, hD⟩ := dk_of I.hok e
  have hv : vs = [] := by
    have := Paired.length kv
    exact List.length_eq_zero_iff.mp (by simpa using this.symm)
  subst hv
  obtain ⟨o, es, ep, g, hx, hd, _, hp, _⟩ := hD
  have he : es.toList = [] := by
    cases q : es.toList with
    | nil => rfl
    | cons y ys => rw [q] at hp; cases hp
  refine ⟨_, .dict (kvs := []) g hx.1 hd (by rw [he]; exact .nil) (by rw [he]; exact .nil), fun z => ?_⟩
  have z : sysModules = a := by simpa using z
  exact absurd z.symm (by simpa using hS)
theorem reads_of {s : Shared} {pins : List (Addr × Obj)} (I : Inv X pins σ H s) (sm : SmOk H) : ∀ (d : D) (v : V) (u : Value), shows d = true → Rep X.K H O d v → RelV v u → ∃ as, Reads s.heap u (toPy d) as ∧ sysModules ∉ as := by
  intro d
  induction d using D.ind with
  | h1 => intro v u _ h r; have h : v = .non := h; subst h; cases r; exact ⟨_, .none, fun z => nomatch z⟩
  | h2 b => intro v u _ h r; have h : v = .bl b := h; subst h; cases r; exact ⟨_, .bool b, fun z => nomatch z⟩
  | h3 b => intro v u _ h r; have h : v = .int b := h; subst h; obtain ⟨t, rfl⟩ := r; exact ⟨_, .int b t, fun z => nomatch z⟩
  | h4 b => intro v u _ h r; have h : v = .str b := h; subst h; obtain ⟨t, rfl⟩ := r; exact ⟨_, .str b t, fun z => nomatch z⟩
  | h5 l ih =>
    intro v u hs h r
    simp only [Rep] at h
    obtain ⟨a, xs, e, n, g, hr⟩ := h
    subst e
    cases r
    obtain ⟨its, rv, ⟨o, g2, hc, m, hd⟩, _⟩ := I.tuple (SqT.of g)
    obtain ⟨as, q, nq⟩ := readsAll_of I ih hs hr rv
    exact ⟨_, .tuple g2 hc hd (by simpa using q), nq⟩
  | h6 l ih =>
    intro v u hs h r
    simp only [Rep] at h
    obtain ⟨a, xs, e, n, g, hr⟩ := h
    subst e
    cases r
    exact reads_list I sm g fun us rv => readsAll_of I ih hs hr rv
  | h7 l ih =>
    intro v u hs h r
    have hl : l = [] := List.isEmpty_iff.mp hs
    subst hl
    simp only [Rep] at h
    obtain ⟨a, xs, e, n, g, hr⟩ := h
    subst e
    cases r
    exact reads_dk I g hr
  | h8 l ih => intro v u hs; exact nomatch hs
  | h9 c l ih => intro v u hs; exact nomatch hs
  | h10 c l ih => intro v u hs; exact nomatch hs
  | h11 c l ih => intro v u hs; exact nomatch hs
theorem RdR.reads {s : Shared} {pins : List (Addr × Obj)} {d : D} {v : V} {u : Value} (I : Inv X pins σ H s) (sm : SmOk H) (h : RdR X.K H O d v) (hs : shows d = true) (r : RelV v u) : ∃ as, Reads s.heap u (toPy d) as ∧ sysModules ∉ as := by
  rcases h with h | ⟨a, e, h⟩
  · exact reads_of I sm d v u hs h r
  · subst e
    cases r
    cases d with
    | lst l =>
      obtain ⟨xs, e, hr⟩ := h
      exact reads_list I sm (SqL.of e) fun us rv => readsAll_of I (fun d _ v u => reads_of I sm d v u) hs hr rv
    | dk l =>
      obtain ⟨xs, e, hr⟩ := h
      have hl : l = [] := List.isEmpty_iff.mp hs
      subst hl
      exact reads_dk I e hr
    | dt l => exact nomatch hs
    | obj c l => exact nomatch hs
    | _ => exact (show False from h).elim
theorem cb_repr (hg : X.A.guards = some []) (hu : X.A.units + 70 < cLine) : CallR X (.builtin "repr") (rBl X.K .repr) := by
  intro pins s σ H xs us Q I rx q
  obtain ⟨O, ds, r, dom, ha, e, hq⟩ := q
  match ds, e, ha with
  | [d], e, ha =>
    obtain ⟨x, rfl, h⟩ := rds1 ha
    obtain ⟨u, rfl, ru⟩ := vals1 rx
    have e : (match reprD d with
      | some s => fzR s
      | none => none) = some r := e
    cases q1 : reprD d with
    | none => rw [q1] at e; cases e
    | some sd =>
      rw [q1] at e
      cases some_pair e
      unfold reprD at q1
      split at q1
      · rename_i hc
        cases q1
        simp only [Bool.and_eq_true, decide_eq_true_eq] at hc
        obtain ⟨⟨⟨h1, h2⟩, h3⟩, h4⟩ := hc
        have hq : Q (.str (toPy d).shown) H := hq.sc rfl
        obtain ⟨as, hr, nS⟩ := RdR.reads I dom.sm h h1 ru
        cases u with
        | ref a =>
          exact repr_of_reads' hr h2 (fun _ => nS) hg (by omega) (fun _ _ z => z) (fun h' u tk k => ⟨.str _, H, I.kept k, ⟨_, rfl⟩, hq⟩) h4
        | none =>
          cases d <;> (simp only [toPy] at hr; cases hr)
          exact P.repr_of_none ⟨.str _, H, I.tok _, ⟨_, rfl⟩, hq⟩
        | bool b =>
          cases d <;> (simp only [toPy] at hr; cases hr)
          exact P.repr_of_bool ⟨.str _, H, I.tok _, ⟨_, rfl⟩, hq⟩
        | int i t =>
          cases d <;> (simp only [toPy] at hr; cases hr)
          exact P.repr_of_int (of_decide_eq_true h2) ⟨.str _, H, I.tok _, ⟨_, rfl⟩, hq⟩
        | str z t =>
          cases d <;> (simp only [toPy] at hr; cases hr)
          exact P.repr_of_str (x := z) ⟨.str _, H, I.tok _, ⟨_, rfl⟩, hq⟩ h4
        | _ => exact nomatch hr
      · cases q1

/-! ### sorted, of pairs -/
def pairAt (H : Hp) : V → Int × Int
  | .ref t => (match H t with
    | some (.tup [.int i, .int j]) => (i, j)
    | _ => (0, 0))
  | _ => (0, 0)
theorem pairs_reps {K : PySem.W.Frag} : ∀ {l : List D} {xs : List V} {r : List (Int × Int)}, Reps K H O l xs → pairsOf l = some r → xs.map (pairAt H) = r ∧ ∀ x ∈ xs, (∃ t, x = V.ref t ∧ H t = some (.tup [.int (pairAt H x).1, .int (pairAt H x).2])) ∧ Rep K H O (.tup [.int (pairAt H x).1, .int (pairAt H x).2]) x
  | [], xs, r, h, e => by
    have h : xs = [] := h
    subst h
    have e : some [] = some r := e
    cases e
    exact ⟨rfl, fun x hx => nomatch hx⟩
  | d :: ds, xs, r, h, e => by
    obtain ⟨x, xr, e1, h1, h2⟩ : ∃ x r, xs = x :: r ∧ Rep K H O d x ∧ Reps K H O ds r := h
    subst e1
    obtain ⟨i, j, rfl⟩ : ∃ i j, d = .tup [.int i, .int j] := by
      unfold pairsOf at e
      split at e
      · rename_i q; cases q
      · rename_i i j ds' q; cases q; exact ⟨i, j, rfl⟩
      · cases e
    have e : (pairsOf ds).map ((i, j) :: ·) = some r := e
    cases q : pairsOf ds with
    | none => rw [q] at e; cases e
    | some m =>
      rw [q] at e
      have e : (i, j) :: m = r := Option.some.inj e
      subst e
      obtain ⟨a1, a2⟩ := pairs_reps h2 q
      have h1' := h1
      simp only [Rep] at h1'
      obtain ⟨t, ys, rfl, _, ht, hr⟩ := h1'
      obtain ⟨y1, r1, rfl, rfl, hr⟩ : ∃ x r, ys = x :: r ∧ x = V.int i ∧ Reps K H O [.int j] r := hr
      obtain ⟨y2, r2, rfl, rfl, hr⟩ : ∃ x r, r1 = x :: r ∧ x = V.int j ∧ Reps K H O [] r := hr
      have hr : r2 = [] := hr
      subst hr
      have ep : pairAt H (.ref t) = (i, j) := by unfold pairAt; simp only [ht]
      refine ⟨by rw [List.map_cons, ep, a1], fun x hx => ?_⟩
      rcases List.mem_cons.mp hx with z | z
      · subst z
        rw [ep]
        exact ⟨⟨t, rfl, ht⟩, h1⟩
      · exact a2 x z
theorem reps_of {K : PySem.W.Frag} (f : V → D) : ∀ {ys : List V}, (∀ y ∈ ys, Rep K H O (f y) y) → Reps K H O (ys.map f) ys
  | [], _ => rfl
  | y :: ys, h => ⟨y, ys, rfl, h y List.mem_cons_self, reps_of f fun z hz => h z (List.mem_cons_of_mem _ hz)⟩
theorem sorted_reps {K : PySem.W.Frag} {l : List D} {xs ys : List V} {r : List (Int × Int)} (h : Reps K H O l xs) (e : pairsOf l = some r) (hs : SrtO.Srtd (ltP (pairAt H)) ys) (hb : SrtO.Stb (ltP (pairAt H)) ys xs) : Reps K H O ((sortPL r).map fun p => .tup [.int p.1, .int p.2]) ys := by
  obtain ⟨a1, a2⟩ := pairs_reps h e
  have pm : (ys.map (pairAt H)).Perm r := by rw [← a1]; exact hb.perm.map _
  have up : (ys.map (pairAt H)).Pairwise LeP := by
    refine List.pairwise_map.mpr (List.Pairwise.imp (fun {a b} q => ?_) hs)
    have q := SrtO.lexB_no.mp q
    unfold LeP
    omega
  rw [← eq_of_leP (pm.trans (sortPL_perm r).symm) up (sortPL_up r), List.map_map]
  exact reps_of _ fun y hy => (a2 y (hb.perm.mem_iff.mp hy)).2
theorem cb_sortP : CallR X (.builtin "sorted") (rBl X.K .sortP) := by
  refine blt_of fun xs H O ds r Q dom ha e hq => ?_
  match ds, e, ha with
  | [.lst l], e, ha =>
    obtain ⟨x, rfl, h⟩ := rds1 ha
    obtain ⟨p, ys, rfl, s1, r1⟩ := h.lst
    have e : (match pairsOf l with
      | some r => frR (.lst ((sortPL r).map fun p => .tup [.int p.1, .int p.2]))
      | _ => none) = some r := e
    cases q : pairsOf l with
    | none => rw [q] at e; cases e
    | some m =>
      rw [q] at e
      cases some_pair e
      exact ⟨_, cr_sortedPO, p, ys, pairAt H, rfl, s1, fun x hx => ((pairs_reps r1 q).2 x hx).1, fun zs a z1 z2 hp => hq.lst hp (sorted_reps r1 q z1 z2)⟩
  | [.tup l], e, ha =>
    obtain ⟨x, rfl, h⟩ := rds1 ha
    obtain ⟨p, ys, rfl, s1, r1⟩ := h.tup
    have e : (match pairsOf l with
      | some r => frR (.lst ((sortPL r).map fun p => .tup [.int p.1, .int p.2]))
      | _ => none) = some r := e
    cases q : pairsOf l with
    | none => rw [q] at e; cases e
    | some m =>
      rw [q] at e
      cases some_pair e
      exact ⟨_, PZ.cr_sortedPT, p, ys, pairAt H, rfl, s1, fun x hx => ((pairs_reps r1 q).2 x hx).1, fun zs a z1 z2 hp => hq.lst hp (sorted_reps r1 q z1 z2)⟩

/-! ### dict(d), dict(pairs), sorted(d); keys that are tuples -/
theorem keyInts_of : ∀ {k : List Key} {ns : List Int}, keyInts k = some ns → k = ns.map Sum.inl
  | [], ns, e => by
    have e : some [] = some ns := e
    cases e
    rfl
  | .inl i :: r, ns, e => by
    have e : (keyInts r).map (i :: ·) = some ns := e
    cases q : keyInts r with
    | none => rw [q] at e; cases e
    | some m =>
      rw [q] at e
      cases e
      rw [List.map_cons, keyInts_of q]
  | .inr x :: r, ns, e => nomatch e
theorem keysInts_of {K : PySem.W.Frag} : ∀ {l : List (List Key × D)} {kvs : List (List Key × V)} {r : List (List Int)}, Rept K H O l kvs → keysInts l = some r → kvs.map (·.1) = r.map fun ns => ns.map Sum.inl
  | [], kvs, r, h, e => by
    have h : kvs = [] := h
    have e : some [] = some r := e
    cases e
    rw [h]; rfl
  | (k, d) :: l, kvs, r, h, e => by
    obtain ⟨x, xr, e1, h1, h2⟩ : ∃ x r, kvs = (k, x) :: r ∧ Rep K H O d x ∧ Rept K H O l r := h
    subst e1
    have e : (match keyInts k, keysInts l with
      | some x, some xs => some (x :: xs)
      | _, _ => none) = some r := e
    cases q1 : keyInts k with
    | none => rw [q1] at e; cases e
    | some ns =>
      cases q2 : keysInts l with
      | none => rw [q1, q2] at e; cases e
      | some m =>
        rw [q1, q2] at e
        cases e
        rw [List.map_cons, List.map_cons, keysInts_of h2 q2, keyInts_of q1]
theorem hashT_is {P : Program} {w : World} (ns : List Int) : (tupleKind (mixKind P w)).hash (ns.map Sum.inl) = hashT ns := by
  show reduceHash (Builtin.Tuple.tupleHashOf ((ns.map Sum.inl).map (keyH w))) = _
  rw [List.map_map]
  rfl
theorem ResQ.dt {K : PySem.W.Frag} {l : List (List Key × D)} {xs : List (List Key × V)} {Q : VK} {p : Addr} (h : ResQ K H O (true, .dt l) Q) (hp : H p = none) (r : Rept K H O l xs) : Q (.ref p) (upd H p (.dT xs)) :=
  h p (.dT xs) hp fun _ _ f q => ⟨xs, q, r.step f⟩
theorem Rept.any0 {K : PySem.W.Frag} {k : List Key} : ∀ {l : List (List Key × D)} {xs : List (List Key × V)}, Rept K H O l xs → (l.any fun p => decide (p.1 = k)) = (xs.any fun p => decide (p.1 = k))
  | [], xs, h => by
    have h : xs = [] := h
    subst h
    rfl
  | (k', d) :: ds, xs, h => by
    obtain ⟨x, r, e, h1, h2⟩ : ∃ x r, xs = (k', x) :: r ∧ Rep K H O d x ∧ Rept K H O ds r := h
    subst e
    rw [List.any_cons, List.any_cons, Rept.any0 h2]
theorem Rept.map0 {K : PySem.W.Frag} {k : List Key} {d : D} {v : V} (hv : Rep K H O d v) : ∀ {l : List (List Key × D)} {xs : List (List Key × V)}, Rept K H O l xs → Rept K H O (l.map fun p => if p.1 = k then (p.1, d) else p) (xs.map fun p => if p.1 = k then (p.1, v) else p)
  | [], xs, h => by
    have h : xs = [] := h
    subst h
    exact rfl
  | (k', d') :: ds, xs, h => by
    obtain ⟨x, r, e, h1, h2⟩ : ∃ x r, xs = (k', x) :: r ∧ Rep K H O d' x ∧ Rept K H O ds r := h
    subst e
    rw [List.map_cons, List.map_cons]
    by_cases z : k' = k
    · rw [if_pos z, if_pos z]
      exact ⟨v, _, rfl, hv, Rept.map0 hv h2⟩
    · rw [if_neg z, if_neg z]
      exact ⟨x, _, rfl, h1, Rept.map0 hv h2⟩
theorem Rept.snoc0 {K : PySem.W.Frag} {k : List Key} {d : D} {v : V} (hv : Rep K H O d v) : ∀ {l : List (List Key × D)} {xs : List (List Key × V)}, Rept K H O l xs → Rept K H O (l ++ [(k, d)]) (xs ++ [(k, v)])
  | [], xs, h => by
    have h : xs = [] := h
    subst h
    exact ⟨v, [], rfl, hv, rfl⟩
  | (k', d') :: ds, xs, h => by
    obtain ⟨x, r, e, h1, h2⟩ : ∃ x r, xs = (k', x) :: r ∧ Rep K H O d' x ∧ Rept K H O ds r := h
    subst e
    exact ⟨x, _, rfl, h1, Rept.snoc0 hv h2⟩
theorem Rept.put0 {K : PySem.W.Frag} {k : List Key} {d : D} {v : V} {l : List (List Key × D)} {xs : List (List Key × V)} (h : Rept K H O l xs) (hv : Rep K H O d v) : Rept K H O (kput l k d) (putK xs k v) := by
  unfold kput putK
  rw [h.any0]
  split
  · exact Rept.map0 hv h
  · exact Rept.snoc0 hv h
theorem keysD_rep0 {K : PySem.W.Frag} : ∀ {ds : List D} {xs : List V} {k : List Key}, Reps K H O ds xs → keysD ds = some k → xs = k.map kV := fun h e => keysD_rep h e
/-- a list of pairs (tuple, thing) -/
theorem pairsT_of {K : PySem.W.Frag} : ∀ {l : List D} {xs : List V} {r : List (List Key × D)}, Reps K H O l xs → pairsT l = some r → ∃ (ps : List Addr) (kvs : List (List Key × V)), xs = ps.map V.ref ∧ PZ.PrT K H ps kvs ∧ Rept K H O r kvs
  | [], xs, r, h, e => by
    have h : xs = [] := h
    have e : some [] = some r := e
    cases e
    exact ⟨[], [], h, .nil, rfl⟩
  | d :: l, xs, r, h, e => by
    obtain ⟨x, xr, e1, h1, h2⟩ : ∃ x r, xs = x :: r ∧ Rep K H O d x ∧ Reps K H O l r := h
    subst e1
    obtain ⟨ks, d', rfl⟩ : ∃ ks d', d = .tup [.tup ks, d'] := by
      unfold pairsT at e
      split at e
      · rename_i q; cases q
      · rename_i ks d' ds' q; cases q; exact ⟨ks, d', rfl⟩
      · cases e
    have e : (match keysD ks, pairsT l with
      | some k, some xs => some ((k, d') :: xs)
      | _, _ => none) = some r := e
    cases q1 : keysD ks with
    | none => rw [q1] at e; cases e
    | some k =>
      cases q2 : pairsT l with
      | none => rw [q1, q2] at e; cases e
      | some m =>
        rw [q1, q2] at e
        cases e
        obtain ⟨ps, kvs, e2, e3, e4⟩ := pairsT_of h2 q2
        simp only [Rep] at h1
        obtain ⟨t, ys, rfl, _, ht, hr⟩ := h1
        obtain ⟨y1, r1, rfl, g1, hr⟩ : ∃ x r, ys = x :: r ∧ Rep K H O (.tup ks) x ∧ Reps K H O [d'] r := hr
        obtain ⟨y2, r2, rfl, g2, hr⟩ : ∃ x r, r1 = x :: r ∧ Rep K H O d' x ∧ Reps K H O [] r := hr
        have hr : r2 = [] := hr
        subst hr
        simp only [Rep] at g1
        obtain ⟨b, zs, rfl, _, hb, hz⟩ := g1
        have ez := keysD_rep hz q1
        subst ez
        exact ⟨t :: ps, (k, y2) :: kvs, by rw [e2]; rfl, .cons ⟨b, ht, hb⟩ e3, y2, kvs, rfl, g2, e4⟩
theorem merge_reps {K : PySem.W.Frag} : ∀ {r : List (List Key × D)} {kvs : List (List Key × V)} {acc : List (List Key × D)} {ac : List (List Key × V)}, Rept K H O r kvs → Rept K H O acc ac → Rept K H O (r.foldl (fun acc p => kput acc p.1 p.2) acc) (PZ.mergeT ac kvs)
  | [], kvs, acc, ac, h, h0 => by
    have h : kvs = [] := h
    rw [h]; exact h0
  | (k, d) :: r, kvs, acc, ac, h, h0 => by
    obtain ⟨x, xr, e1, h1, h2⟩ : ∃ x r', kvs = (k, x) :: r' ∧ Rep K H O d x ∧ Rept K H O r r' := h
    subst e1
    exact merge_reps (r := r) (kvs := xr) (acc := kput acc k d) (ac := putK ac k x) h2 (h0.put0 h1)
theorem cb_dict (hc : X.calm = true) (hu : X.A.units + 2 < cLine) : CallR X (.type "dict") (rBl X.K .dict) := by
  refine blt_of fun xs H O ds r Q dom ha e hq => ?_
  match ds, e, ha with
  | [.dt l], e, ha =>
    obtain ⟨x, rfl, h⟩ := rds1 ha
    obtain ⟨p, kvs, rfl, s1, r1⟩ := h.dt
    have e : (match keysInts l with
      | some r => if decide (r.map hashT).Nodup then frR (.dt l) else none
      | none => none) = some r := e
    cases q : keysInts l with
    | none => rw [q] at e; cases e
    | some m =>
      rw [q] at e
      simp only [decide_eq_true_eq] at e
      split at e
      · rename_i hn
        cases some_pair e
        refine ⟨_, PZ.cr_copyT hu, p, kvs, rfl, s1, ?_, fun a hp => hq.dt hp r1⟩
        have e1 := keysInts_of r1 q
        have e2 : (kvs.map fun p => (tupleKind (mixKind X.prog X.w)).hash p.1) = m.map hashT := by
          have : (kvs.map fun p => (tupleKind (mixKind X.prog X.w)).hash p.1) = (kvs.map (·.1)).map (tupleKind (mixKind X.prog X.w)).hash := by rw [List.map_map]; rfl
          rw [this, e1, List.map_map]
          exact List.map_congr_left fun ns _ => hashT_is ns
        rw [e2]
        exact hn
      · cases e
  | [.lst l], e, ha =>
    obtain ⟨x, rfl, h⟩ := rds1 ha
    obtain ⟨p, ys, rfl, s1, r1⟩ := h.lst
    have e : (match pairsT l with
      | some r => frR (.dt (r.foldl (fun acc p => kput acc p.1 p.2) []))
      | none => none) = some r := e
    cases q : pairsT l with
    | none => rw [q] at e; cases e
    | some m =>
      rw [q] at e
      cases some_pair e
      obtain ⟨ps, kvs, e1, e2, e3⟩ := pairsT_of r1 q
      exact ⟨_, PZ.cr_dictPT hc hu, p, ps, kvs, rfl, by rw [← e1]; exact s1, e2, fun a hp => hq.dt hp (merge_reps e3 rfl)⟩
/-- sorted tuples of ints as things -/
theorem tups_reps {K : PySem.W.Frag} (dom : ∀ a, O a → Has H a) {k : V → List Int} : ∀ {ys : List V}, (∀ y ∈ ys, ∃ b, y = .ref b ∧ H b = some (.tup ((k y).map V.int))) → Reps K H O ((ys.map k).map tupI) ys := by
  intro ys h
  rw [List.map_map]
  refine reps_of _ fun y hy => ?_
  obtain ⟨b, rfl, hb⟩ := h y hy
  refine ⟨b, _, rfl, fun z => ?_, hb, ?_⟩
  · obtain ⟨o, e, n⟩ := dom b z
    rw [hb] at e
    cases e
    exact n.1 _ rfl
  · generalize k (.ref b) = ns
    clear hb
    induction ns with
    | nil => rfl
    | cons i r ih => exact ⟨_, _, rfl, rfl, ih⟩
theorem nodup_of_map' {A B : Type} {f : A → B} {l : List A} (h : (l.map f).Nodup) : l.Nodup := (List.pairwise_map.mp h).imp fun {a b} q z => q (by rw [z])
theorem inl_inj : ∀ {a b : List Int}, (a.map Sum.inl : List Key).map kV = b.map V.int → a = b
  | [], [], _ => rfl
  | [], _ :: _, h => nomatch h
  | _ :: _, [], h => nomatch h
  | x :: a, y :: b, h => by
    simp only [List.map_cons, List.cons.injEq] at h
    have e : V.int x = V.int y := h.1
    cases e
    rw [inl_inj h.2]
theorem keys_at {k : V → List Int} : ∀ {kvs : List (List Key × V)} {bs : List Addr} {m : List (List Int)}, IsKeys H kvs bs → kvs.map (·.1) = m.map (fun ns => ns.map Sum.inl) → (∀ b ∈ bs, H b = some (.tup ((k (.ref b)).map V.int))) → bs.map (k ∘ V.ref) = m
  | _, _, [], .nil, _, _ => rfl
  | _, _, _ :: _, .nil, e, _ => nomatch e
  | _, _, [], .cons _ _, e, _ => nomatch e
  | _, _, n :: m, .cons (a := p) (b := b) h t, e, hb => by
    simp only [List.map_cons, List.cons.injEq] at e
    rw [List.map_cons, keys_at t e.2 fun b hm => hb b (List.mem_cons_of_mem _ hm)]
    have h2 := hb b List.mem_cons_self
    rw [h, e.1] at h2
    have h3 : (n.map Sum.inl : List Key).map kV = (k (.ref b)).map V.int := by
      injection h2 with h2
      injection h2
    rw [inl_inj h3]
    rfl
theorem cb_sortT (hc : X.calm = true) : CallR X (.builtin "sorted") (rBl X.K .sortT) := by
  refine blt_of fun xs H O ds r Q dom ha e hq => ?_
  match ds, e, ha with
  | [.dt l], e, ha =>
    obtain ⟨x, rfl, h⟩ := rds1 ha
    obtain ⟨p, kvs, rfl, s1, r1⟩ := h.dt
    have e : (match keysInts l with
      | some r => if evenT r then frR (.lst ((uniqT r).map tupI)) else none
      | none => none) = some r := e
    cases q : keysInts l with
    | none => rw [q] at e; cases e
    | some m =>
      rw [q] at e
      simp only at e
      split at e
      · rename_i hn
        cases some_pair e
        obtain ⟨d, hd1, hl⟩ := evenT_len hn
        have e1 := keysInts_of r1 q
        refine ⟨_, PZ.cr_sortedKeysT hc hd1, p, kvs, rfl, s1, fun pr hpr => ?_, fun a bs ys k hp nd hk hs pm hb => ?_⟩
        · have : pr.1 ∈ kvs.map (·.1) := List.mem_map.mpr ⟨pr, hpr, rfl⟩
          rw [e1] at this
          obtain ⟨ns, h1, h2⟩ := List.mem_map.mp this
          exact ⟨ns, h2.symm, hl ns h1⟩
        · have eb := keys_at hk e1 fun b hm => (hb b hm).1
          have pk : (ys.map k).Perm m := by
            rw [← eb]
            have := pm.map k
            rw [List.map_map] at this
            exact this
          have ndm : m.Nodup := by
            rw [e1] at nd
            exact nodup_of_map' nd
          have hy : ∀ y ∈ ys, ∃ b, y = V.ref b ∧ b ∈ bs := fun y hm => by
            obtain ⟨b, h1, h2⟩ := List.mem_map.mp (pm.mem_iff.mp hm)
            exact ⟨b, h2.symm, h1⟩
          have up : UpT (ys.map k) := srtd_up (d := d) hs (fun y hm => by
            obtain ⟨b, rfl, h1⟩ := hy y hm
            exact (hb b h1).2) (pk.nodup_iff.mpr ndm)
          rw [upT_eq (uniqT_up hl) up fun x => by rw [uniqT_mem, pk.mem_iff]] at hq
          exact hq.lst hp (tups_reps dom fun y hm => by
            obtain ⟨b, rfl, h1⟩ := hy y hm
            exact ⟨b, rfl, (hb b h1).1⟩)
      · cases e

/-! ### a built-in called by its name -/
/-- the name of a built-in; whether it is a class -/
def Blt.nm : Blt → String × Bool
  | .len => ("len", false)
  | .abs => ("abs", false)
  | .max2 => ("max", false)
  | .min2 => ("min", false)
  | .maxL => ("max", false)
  | .minL => ("min", false)
  | .sum => ("sum", false)
  | .all => ("all", false)
  | .any => ("any", false)
  | .int => ("int", true)
  | .repr => ("repr", false)
  | .list => ("list", true)
  | .tuple => ("tuple", true)
  | .sortP => ("sorted", false)
  | .dict => ("dict", true)
  | .sortT => ("sorted", false)
  | .str => ("str", true)
  | _ => ("", false)
/-- those that go by cb_ -/
def Blt.plain : Blt → Bool
  | .isi _ => false
  | .lrange2 => false
  | .sortI => false
  | .sortSet => false
  | .lenSet => false
  | .sortSetT => false
  | .trange2 => false
  | _ => true
def Blt.val (b : Blt) : Value := if b.nm.2 then .type b.nm.1 else .builtin b.nm.1
theorem cb_plain (hc : X.calm = true) (hg : X.A.guards = some []) (hu : X.A.units + 70 < cLine) {b : Blt} (hb : b.plain = true) : CallR X b.val (rBl X.K b) := by
  cases b with
  | len => exact cb_len
  | abs => exact cb_abs
  | max2 => exact cb_max2 hc
  | min2 => exact cb_min2 hc
  | maxL => exact cb_maxL hc
  | minL => exact cb_minL hc
  | sum => exact cb_sum hc
  | all => exact cb_all hc
  | any => exact cb_any hc
  | int => exact cb_int
  | repr => exact cb_repr hg hu
  | list => exact cb_list
  | tuple => exact cb_tuple
  | sortP => exact cb_sortP
  | dict => exact cb_dict hc (by omega)
  | sortT => exact cb_sortT hc
  | str => exact cb_str
  | _ => exact nomatch hb
theorem boot_plain {b : Blt} (hb : b.plain = true) : bootBuiltins (Str.ofString b.nm.1) = some b.val := by
  cases b with
  | isi t => exact nomatch hb
  | lrange2 => exact nomatch hb
  | sortI => exact nomatch hb
  | sortSet => exact nomatch hb
  | lenSet => exact nomatch hb
  | sortSetT => exact nomatch hb
  | trange2 => exact nomatch hb
  | _ => decide +kernel
theorem blt_now {b : Blt} {rs : List Vd} {vs : List V} {H1 : Hp} {O1 : Addr → Prop} {env1 : Env} {Q : VK} (p : RPosts X.K σ H O env H1 O1 env1 rs vs) (h : WOut G X W σ H O env (bltV b rs env1) (fun r env' => ∀ v H' O', RPost X.K σ H O env H' O' env' r v → Q v H')) : rBl X.K b vs H1 Q := by
  unfold bltV at h
  cases q1 : nowDs env1 rs with
  | none => rw [q1] at h; exact (show False from h).elim
  | some ds =>
    rw [q1] at h
    simp only at h
    cases q2 : bltD b ds with
    | none => rw [q2] at h; exact (show False from h).elim
    | some r =>
      rw [q2] at h
      exact ⟨O1, ds, r, p.p.er.dom, VdRs.now p.p.er p.vr q1, q2, ResQ.of p.p.er fun v H2 O2 p2 => h v H2 O2 (RPost.more p.p p2)⟩
theorem blt_run {b : Blt} {es : List Expr} {irs : List E} {Q : VK} (ha : SA G X C fns es irs) (tk : Takes X W) (er : EnvR X.K H O σ env)
    (h : WOut G X W σ H O env (evE C fns (.blt b irs) env) (fun r env' => ∀ v H' O', RPost X.K σ H O env H' O' env' r v → Q v H')) : TMa X es σ H (fun vs H1 => rBl X.K b vs H1 Q) := by
  simp only [evE] at h
  refine ha σ H O env _ W tk er (Out.mono h.bind (fun rs env1 _ g vs H1 O1 p1 => ?_) fun _ _ k => k)
  exact blt_now p1 g
theorem se_blt (hc : X.calm = true) (hg : X.A.guards = some []) (hu : X.A.units + 70 < cLine) {b : Blt} {e : Expr} {es : List Expr} {irs : List E} {p pos : Pos} (hb : b.plain = true) (hgl : Gl X (Str.ofString b.nm.1)) (hm : X.mg (Str.ofString b.nm.1) = none)
    (hn : Str.ofString b.nm.1 ≠ "__name__") (hdb : (Str.ofString b.nm.1 == ("__debug__" : Str)) = false) (hs : starEach (e :: es) X.env = (false, eval e X.env) :: starEach es X.env) (hpl : (backTo pos (starEach es X.env)).any (·.1) = false)
    (ha : SA G X C fns (e :: es) irs) : SE G X C fns (.Call (.Name (Str.ofString b.nm.1) p) (e :: es) [] pos) (.blt b irs) := by
  intro σ H O env Q W tk er h
  have hv := boot_plain hb
  have hcb := cb_plain (X := X) hc hg hu hb
  have hr := blt_run ha tk er h
  unfold Blt.val at hv hcb
  by_cases z : b.nm.2 = true
  · rw [if_pos z] at hv hcb
    exact TM.of (pe_callTy hcb hgl hm hv (paM (e :: es)) hn hdb hs hpl) hr
  · rw [if_neg z] at hv hcb
    exact TM.of (pe_callB hcb hgl hm hv (paM (e :: es)) hn hdb hs hpl) hr
theorem se_isi {t : Ty} {e : Expr} {ir : E} {p p2 pos : Pos} (hgl : Gl X "isinstance") (hm : X.mg "isinstance" = none) (hgt : Gl X (Str.ofString t.name)) (hmt : X.mg (Str.ofString t.name) = none)
    (hs : starEach [e, .Name (Str.ofString t.name) p2] X.env = (false, eval e X.env) :: starEach [.Name (Str.ofString t.name) p2] X.env) (ha : SE G X C fns e ir) :
    SE G X C fns (.Call (.Name "isinstance" p) [e, .Name (Str.ofString t.name) p2] [] pos) (.blt (.isi t) [ir]) := by
  intro σ H O env Q W tk er h
  have hv : bootBuiltins (Str.ofString t.name) = some (.type t.name) := by cases t <;> decide +kernel
  have hn : Str.ofString t.name ≠ "__name__" := by cases t <;> decide +kernel
  have hd : (Str.ofString t.name == ("__debug__" : Str)) = false := by cases t <;> decide +kernel
  have pt : PE X (.Name (Str.ofString t.name) p2) (tC (.ty t.name)) := pe_bltn hgt hmt hv rfl hn hd
  refine TM.of (pe_callB call_isi hgl hm (by decide +kernel) (pa_cons (peM e) (pa_cons pt pa_nil (by rfl)) hs) (by decide +kernel) (by decide +kernel) hs (by rfl)) ?_
  simp only [evE, evEs] at h
  refine ha σ H O env _ W tk er (Out.mono (Out.bind h.bind) (fun x env1 _ g v H1 O1 p1 => ?_) fun _ _ k => k)
  have g2 : WOut G X W σ H O env (bltV (.isi t) [x] env1) (fun r env' => ∀ v H' O', RPost X.K σ H O env H' O' env' r v → Q v H') := g
  refine isi_run (blt_now (rs := [x]) (vs := [v]) ⟨p1.p, ⟨p1.vr, trivial⟩, ?_, fun a ha => p1.t a (by simpa [tmps] using ha)⟩ g2)
  cases x with
  | fr d => cases v <;> simp [tmps, tmp]
  | fz d => simp [tmps, tmp_fz]
  | bw d => simp [tmps, tmp_bw]
end
end PB

/-! PBg -/
/-! PB, part G: calls of defs. -/
namespace PB
open PySem L2
variable [Tb]
section
variable {G : Glob} {X : Cx} {C : Callee} {fns : List Fn} {σ : L2.St} {H H' : Hp} {O O' : Addr → Prop} {env env' : Env} {W : WX}

theorem ints_reps {K : PySem.W.Frag} : ∀ ms : List Int, Reps K H O (ms.map .int) (ms.map V.int)
  | [] => rfl
  | m :: ms => ⟨_, _, rfl, rfl, ints_reps ms⟩
/-! ### list(range(a, b)) -/
theorem rangeD_reps {K : PySem.W.Frag} : ∀ (n : Nat) (lo : Int), Reps K H O (rangeD lo n) ((List.range n).map fun i => V.int (lo + (i : Nat)))
  | 0, _ => rfl
  | n + 1, lo => by
    rw [List.range_succ_eq_map, List.map_cons, List.map_map]
    refine ⟨_, _, rfl, by simp [Rep], ?_⟩
    have h := rangeD_reps (K := K) n (lo + 1)
    have e : (List.range n).map ((fun i : Nat => V.int (lo + (i : Int))) ∘ Nat.succ) = (List.range n).map fun i : Nat => V.int (lo + 1 + (i : Int)) := by
      refine List.map_congr_left fun a _ => ?_
      show V.int (lo + ((a + 1 : Nat) : Int)) = V.int (lo + 1 + (a : Int))
      congr 1
      omega
    rw [e]
    exact h
theorem se_lrange2 (hc : X.calm = true) {a b : Expr} {ia ib : E} {p pos p2 pos2 : Pos} (g1 : Gl X "list") (m1 : X.mg "list" = none) (g2 : Gl X "range") (m2 : X.mg "range" = none)
    (na : starEach [a, b] X.env = (false, eval a X.env) :: starEach [b] X.env) (nb : starEach [b] X.env = (false, eval b X.env) :: starEach [] X.env) (ha : SE G X C fns a ia) (hb : SE G X C fns b ib) :
    SE G X C fns (.Call (.Name "list" p) [.Call (.Name "range" p2) [a, b] [] pos2] [] pos) (.blt .lrange2 [ia, ib]) := by
  intro σ H O env Q W tk er h
  refine TM.of (pe_listRg hc g1 m1 (prg_2 g2 m2 (peM a) (peM b) na nb (by rw [nb]; rfl)) (by rfl)) ?_
  simp only [evE, evEs] at h
  have h := Out.bind h
  refine ha σ H O env _ W tk er (Out.mono (Out.bind h) (fun x env1 _ h1 v H1 O1 p1 => ?_) fun _ _ k => k)
  have er1 := p1.p.er
  refine hb σ H1 O1 env1 _ W tk er1 (WOut.behind p1.p (Out.bind (Out.bind h1)) fun y env2 _ h2 vy H2 O2 p2 => ?_)
  have h2 : WOut G X W σ H O env (bltV .lrange2 [x, y] env2) (fun r env' => ∀ v H' O', RPost X.K σ H O env H' O' env' r v → Q v H') := h2
  have vx := p2.p.vd er1 p1.vr fun a _ z => z
  have p12 := p1.p.then0 p2.p
  unfold bltV at h2
  cases q1 : nowDs env2 [x, y] with
  | none => rw [q1] at h2; exact (show False from h2).elim
  | some ds =>
    rw [q1] at h2
    simp only at h2
    have rd : RdRs X.K H2 O2 ds [v, vy] := VdRs.now p2.p.er (rs := [x, y]) ⟨vx, p2.vr, trivial⟩ q1
    cases q2 : bltD .lrange2 ds with
    | none => rw [q2] at h2; exact (show False from h2).elim
    | some r =>
      rw [q2] at h2
      match ds, q2, rd with
      | [.int i, .int j], q2, rd =>
        have q2 : (if rngOk i && rngOk j && decide (j - i ≤ 1000000) then frR (.lst (rangeD i (j - i).toNat)) else none) = some r := q2
        split at q2
        · rename_i hc
          cases some_pair q2
          unfold rngOk at hc
          simp only [Bool.and_eq_true, decide_eq_true_eq] at hc
          refine ⟨i, j, rd.1.int, rd.2.1.int, ⟨hc.1.1.1, hc.1.1.2, hc.1.2.1, hc.1.2.2, by omega⟩, fun q hq => ?_⟩
          exact (ResQ.of p2.p.er (r := (true, .lst _)) fun v H3 O3 p3 => h2 v H3 O3 (RPost.more p12 p3)).lst hq (rangeD_reps _ _)
        · cases q2

theorem se_trange2 (hc : X.calm = true) {a b : Expr} {ia ib : E} {p pos p2 pos2 : Pos} (g1 : Gl X "tuple") (m1 : X.mg "tuple" = none) (g2 : Gl X "range") (m2 : X.mg "range" = none)
    (na : starEach [a, b] X.env = (false, eval a X.env) :: starEach [b] X.env) (nb : starEach [b] X.env = (false, eval b X.env) :: starEach [] X.env) (ha : SE G X C fns a ia) (hb : SE G X C fns b ib) :
    SE G X C fns (.Call (.Name "tuple" p) [.Call (.Name "range" p2) [a, b] [] pos2] [] pos) (.blt .trange2 [ia, ib]) := by
  intro σ H O env Q W tk er h
  refine TM.of (pe_tupRg hc g1 m1 (prg_2 g2 m2 (peM a) (peM b) na nb (by rw [nb]; rfl)) (by rfl)) ?_
  simp only [evE, evEs] at h
  have h := Out.bind h
  refine ha σ H O env _ W tk er (Out.mono (Out.bind h) (fun x env1 _ h1 v H1 O1 p1 => ?_) fun _ _ k => k)
  have er1 := p1.p.er
  refine hb σ H1 O1 env1 _ W tk er1 (WOut.behind p1.p (Out.bind (Out.bind h1)) fun y env2 _ h2 vy H2 O2 p2 => ?_)
  have h2 : WOut G X W σ H O env (bltV .trange2 [x, y] env2) (fun r env' => ∀ v H' O', RPost X.K σ H O env H' O' env' r v → Q v H') := h2
  have vx := p2.p.vd er1 p1.vr fun a _ z => z
  have p12 := p1.p.then0 p2.p
  unfold bltV at h2
  cases q1 : nowDs env2 [x, y] with
  | none => rw [q1] at h2; exact (show False from h2).elim
  | some ds =>
    rw [q1] at h2
    simp only at h2
    have rd : RdRs X.K H2 O2 ds [v, vy] := VdRs.now p2.p.er (rs := [x, y]) ⟨vx, p2.vr, trivial⟩ q1
    cases q2 : bltD .trange2 ds with
    | none => rw [q2] at h2; exact (show False from h2).elim
    | some r =>
      rw [q2] at h2
      match ds, q2, rd with
      | [.int i, .int j], q2, rd =>
        have q2 : (if rngOk i && rngOk j && decide (j - i ≤ 1000000) then fzR (.tup (rangeD i (j - i).toNat)) else none) = some r := q2
        split at q2
        · rename_i hc
          cases some_pair q2
          unfold rngOk at hc
          simp only [Bool.and_eq_true, decide_eq_true_eq] at hc
          refine ⟨i, j, rd.1.int, rd.2.1.int, ⟨hc.1.1.1, hc.1.1.2, hc.1.2.1, hc.1.2.2, by omega⟩, fun q hq => ?_⟩
          exact (ResQ.of p2.p.er (r := (false, .tup _)) fun v H3 O3 p3 => h2 v H3 O3 (RPost.more p12 p3)).tup p2.p.er.dom hq (rangeD_reps _ _)
        · cases q2

/-! ### sorted(set(a)), len(set(a)) -/
theorem se_sortSet (hc : X.calm = true) {a : Expr} {ia : E} {p pos p2 pos2 : Pos} (g1 : Gl X "sorted") (m1 : X.mg "sorted" = none) (g2 : Gl X "set") (m2 : X.mg "set" = none) (na : starEach [a] X.env = (false, eval a X.env) :: starEach [] X.env) (ha : SE G X C fns a ia) :
    SE G X C fns (.Call (.Name "sorted" p) [.Call (.Name "set" p2) [a] [] pos2] [] pos) (.blt .sortSet [ia]) := by
  intro σ H O env Q W tk er h
  refine TM.of (PZ.pe_sortSet g1 m1 g2 m2 (peM a) hc na) ?_
  simp only [evE, evEs] at h
  refine ha σ H O env _ W tk er (Out.mono (Out.bind h.bind) (fun x env1 _ h1 v H1 O1 p1 => ?_) fun _ _ k => k)
  have h2 : WOut G X W σ H O env (bltV .sortSet [x] env1) (fun r env' => ∀ v H' O', RPost X.K σ H O env H' O' env' r v → Q v H') := h1
  unfold bltV at h2
  cases q1 : nowDs env1 [x] with
  | none => rw [q1] at h2; exact (show False from h2).elim
  | some ds =>
    rw [q1] at h2
    simp only at h2
    have rd : RdRs X.K H1 O1 ds [v] := VdRs.now p1.p.er (rs := [x]) ⟨p1.vr, trivial⟩ q1
    cases q2 : bltD .sortSet ds with
    | none => rw [q2] at h2; exact (show False from h2).elim
    | some r =>
      rw [q2] at h2
      match ds, q2, rd with
      | [.lst l], q2, rd =>
        have q2 : (match intsOf l with
          | some r => if r.length ≤ 4000 then frR (.lst ((uniqL r).map .int)) else none
          | _ => none) = some r := q2
        cases q3 : intsOf l with
        | none => rw [q3] at q2; cases q2
        | some ns =>
          rw [q3] at q2
          simp only at q2
          split at q2
          · rename_i hl
            cases some_pair q2
            obtain ⟨b, ys, e1, s1, r1⟩ := rd.1.lst
            refine ⟨b, ns, e1, by rw [← r1.ints q3]; exact s1, hl, fun ms q hu hm hq => ?_⟩
            rw [uniqL_eq hu hm] at h2
            exact (ResQ.of p1.p.er (r := (true, .lst _)) fun v H3 O3 p3 => h2 v H3 O3 (RPost.more p1.p p3)).lst hq (ints_reps ms)
          · cases q2
theorem se_lenSet (hc : X.calm = true) {a : Expr} {ia : E} {p pos p2 pos2 : Pos} (g1 : Gl X "len") (m1 : X.mg "len" = none) (g2 : Gl X "set") (m2 : X.mg "set" = none) (na : starEach [a] X.env = (false, eval a X.env) :: starEach [] X.env) (ha : SE G X C fns a ia) :
    SE G X C fns (.Call (.Name "len" p) [.Call (.Name "set" p2) [a] [] pos2] [] pos) (.blt .lenSet [ia]) := by
  intro σ H O env Q W tk er h
  refine TM.of (PZ.pe_lenSet g1 m1 g2 m2 (peM a) hc na) ?_
  simp only [evE, evEs] at h
  refine ha σ H O env _ W tk er (Out.mono (Out.bind h.bind) (fun x env1 _ h1 v H1 O1 p1 => ?_) fun _ _ k => k)
  have h2 : WOut G X W σ H O env (bltV .lenSet [x] env1) (fun r env' => ∀ v H' O', RPost X.K σ H O env H' O' env' r v → Q v H') := h1
  unfold bltV at h2
  cases q1 : nowDs env1 [x] with
  | none => rw [q1] at h2; exact (show False from h2).elim
  | some ds =>
    rw [q1] at h2
    simp only at h2
    have rd : RdRs X.K H1 O1 ds [v] := VdRs.now p1.p.er (rs := [x]) ⟨p1.vr, trivial⟩ q1
    cases q2 : bltD .lenSet ds with
    | none => rw [q2] at h2; exact (show False from h2).elim
    | some r =>
      rw [q2] at h2
      match ds, q2, rd with
      | [.lst l], q2, rd =>
        have q2 : (match intsOf l with
          | some r => if r.length ≤ 4000 then fzR (.int (uniqL r).length) else none
          | _ => none) = some r := q2
        cases q3 : intsOf l with
        | none => rw [q3] at q2; cases q2
        | some ns =>
          rw [q3] at q2
          simp only at q2
          split at q2
          · rename_i hl
            cases some_pair q2
            obtain ⟨b, ys, e1, s1, r1⟩ := rd.1.lst
            refine ⟨b, ns, e1, by rw [← r1.ints q3]; exact s1, hl, fun ms hu hm => ?_⟩
            rw [← nodup_len (up_nodup (uniqL_up ns)) hu fun x => by rw [uniqL_mem, hm x]]
            exact (ResQ.of p1.p.er (r := (false, .int _)) fun v H3 O3 p3 => h2 v H3 O3 (RPost.more p1.p p3)).sc rfl
          · cases q2

/-! ### what a def promises -/
def ArgR (K : PySem.W.Frag) (H : Hp) (O : Addr → Prop) : List Bool → List D → List V → Prop
  | [], [], [] => True
  | false :: ms, d :: ds, v :: vs => Rep K H O d v ∧ ArgR K H O ms ds vs
  | true :: ms, d :: ds, v :: vs => (∃ a, v = .ref a ∧ O a ∧ Shp K H O d a) ∧ ArgR K H O ms ds vs
  | _, _, _ => False
/-- the objects that are handed over by reference -/
def refA : List Bool → List V → List Addr
  | true :: ms, .ref a :: vs => a :: refA ms vs
  | _ :: ms, _ :: vs => refA ms vs
  | _, _ => []
def OutR (K : PySem.W.Frag) (H : Hp) (O : Addr → Prop) : List Addr → List D → Prop
  | [], [] => True
  | a :: as, d :: ds => Shp K H O d a ∧ OutR K H O as ds
  | _, _ => False
/-- behind a call -/
structure CPost (K : PySem.W.Frag) (R : List Addr) (H : Hp) (O : Addr → Prop) (H' : Hp) (O' : Addr → Prop) (outs : List D) : Prop where
  ext : Ext (fun a => a ∈ R) H H'
  new : ∀ a, O' a → O a ∨ H a = none
  hold : ∀ a, O a → O' a
  dom : Dm H' O'
  outs : OutR K H' O' R outs
def RtR (K : PySem.W.Frag) (H : Hp) (vs : List V) (H' : Hp) (O' : Addr → Prop) (r : Rt) (v : V) : Prop := match r with
  | .fz d => Rep K H' O' d v
  | .fr d => ∃ a, v = .ref a ∧ O' a ∧ H a = none ∧ Shp K H' O' d a
  | .prm j => vs[j]? = some v
def spF (G : Glob) (K : PySem.W.Frag) (C : Callee) (f : Nat) (fn : Fn) : Sp := fun vs H Q E => ∃ (O : Addr → Prop) (ds : List D), vs.length = fn.ps.length ∧ ArgR K H O fn.modes ds vs ∧ (refA fn.modes vs).Nodup ∧ Dm H O ∧
  match C f ds with
  | .ret r outs => ∀ v H' O', CPost K (refA fn.modes vs) H O H' O' outs → RtR K H vs H' O' r v → Q v H'
  | .exc x outs => ∀ cls d H' O', CPost K (refA fn.modes vs) H O H' O' outs → ExcR G K H' O' x cls d → E cls d H'
  | .err => False

/-! ### the arguments -/
theorem ArgR.step {K : PySem.W.Frag} (f : Fz H O H' O') (ho : ∀ a, O a → O' a) (hs : ∀ a o, O a → H a = some o → NT o → H' a = some o) : ∀ {ms : List Bool} {ds : List D} {vs : List V}, ArgR K H O ms ds vs → ArgR K H' O' ms ds vs
  | [], [], [], _ => trivial
  | false :: ms, d :: ds, v :: vs, h => ⟨Rep.step f d v h.1, ArgR.step f ho hs h.2⟩
  | true :: ms, d :: ds, v :: vs, h => by
    obtain ⟨⟨a, e, o, s⟩, h2⟩ := h
    exact ⟨⟨a, e, ho a o, s.step f fun u q t => hs a u o q t⟩, ArgR.step f ho hs h2⟩
  | [], [], _ :: _, h => h.elim
  | [], _ :: _, _, h => h.elim
  | false :: _, [], _, h => h.elim
  | true :: _, [], _, h => h.elim
  | false :: _, _ :: _, [], h => h.elim
  | true :: _, _ :: _, [], h => h.elim
/-- which slot, which temporary thing each reference is -/
def IsR (σ : L2.St) (env : Env) (T : List Addr) : List (Option Nat) → List Addr → Prop
  | [], [] => True
  | some i :: is, a :: as => (∃ d, env[i]? = some (.own d) ∨ env[i]? = some (.ref d)) ∧ σ[i]? = some (some (.ref a)) ∧ IsR σ env T is as
  | none :: is, a :: as => a ∈ T ∧ IsR σ env T is as
  | _, _ => False
theorem ownD_some {i : Nat} {d : D} (h : ownD env i = some d) : env[i]? = some (.own d) ∨ env[i]? = some (.ref d) := by
  unfold ownD at h
  cases q : env[i]? with
  | none => rw [q] at h; cases h
  | some s =>
    rw [q] at h
    cases s with
    | own d' => cases h; exact .inl rfl
    | ref d' => cases h; exact .inr rfl
    | _ => cases h
theorem IsR.mem {T : List Addr} : ∀ {is : List (Option Nat)} {as : List Addr} {i : Nat} {a : Addr}, IsR σ env T is as → a ∈ as → (∀ b ∈ T, ¬ Root σ env b) → Root σ env a → σ[i]? = some (some (.ref a)) → (∃ d, env[i]? = some (.own d) ∨ env[i]? = some (.ref d)) → EnvR X.K H O σ env → some i ∈ is
  | [], [], _, _, _, ha, _, _, _, _, _ => nomatch ha
  | [], _ :: _, _, _, h, _, _, _, _, _, _ => h.elim
  | some j :: is, [], _, _, h, _, _, _, _, _, _ => h.elim
  | none :: is, [], _, _, h, _, _, _, _, _, _ => h.elim
  | some j :: is, b :: as, i, a, h, ha, hT, hR, hi, hd, e => by
    obtain ⟨⟨d, h1⟩, h2, h3⟩ := h
    rcases List.mem_cons.mp ha with z | z
    · subst z
      obtain ⟨d', hd⟩ := hd
      have : j = i := e.apart j i a d d' h1 hd h2 hi
      rw [this]; exact List.mem_cons_self
    · exact List.mem_cons_of_mem _ (IsR.mem h3 z hT hR hi hd e)
  | none :: is, b :: as, i, a, h, ha, hT, hR, hi, hd, e => by
    obtain ⟨h1, h3⟩ := h
    rcases List.mem_cons.mp ha with z | z
    · subst z
      exact (hT a h1 hR).elim
    · exact List.mem_cons_of_mem _ (IsR.mem h3 z hT hR hi hd e)
/-- THE ARGUMENTS are handed over -/
theorem args_sound : ∀ {ms : List Bool} {rs : List Vd} {vs : List V} {ds : List D} {is : List (Option Nat)} {O : Addr → Prop} {env env' : Env}, EnvR X.K H O σ env → VdRs X.K H O σ env rs vs → (tmps rs vs).Nodup → argsD ms rs env = some (ds, is, env') →
    ∃ O' T, Post X.K σ (fun a => a ∈ tmps rs vs) H O env H O' env' ∧ ArgR X.K H O' ms ds vs ∧ (refA ms vs).Nodup ∧ IsR σ env' T is (refA ms vs) ∧ (∀ a ∈ T, a ∈ tmps rs vs ∧ O' a ∧ ¬ Root σ env' a) ∧ (∀ a ∈ refA ms vs, O' a)
  | [], [], [], ds, is, O, env, env', e, _, _, h => by
    have h : some ([], [], env) = some (ds, is, env') := h
    cases h
    exact ⟨O, [], ⟨Ext.refl, e, fun _ h => .inl h, fun x q _ _ => q, fun x q => q, fun x q => (nomatch q), fun _ => Iff.rfl⟩, trivial, List.nodup_nil, trivial, fun a ha => (nomatch ha), fun a ha => nomatch ha⟩
  | [], [], _ :: _, _, _, _, _, _, _, h, _, _ => h.elim
  | [], _ :: _, _, _, _, _, _, _, _, _, _, h => nomatch h
  | false :: _, [], _, _, _, _, _, _, _, _, _, h => nomatch h
  | true :: _, [], _, _, _, _, _, _, _, _, _, h => nomatch h
  | false :: _, _ :: _, [], _, _, _, _, _, _, h, _, _ => h.elim
  | true :: _, _ :: _, [], _, _, _, _, _, _, h, _, _ => h.elim
  | false :: ms, r :: rs, v :: vs, ds, is, O, env, env', e, h, nd, hd => by
    have hd : (match takeD r env with
      | some (d, env) => (match argsD ms rs env with
        | some (ds, is, env) => some (d :: ds, is, env)
        | none => none)
      | none => none) = some (ds, is, env') := hd
    cases q1 : takeD r env with
    | none => rw [q1] at hd; cases hd
    | some p =>
      obtain ⟨d, env1⟩ := p
      rw [q1] at hd
      simp only at hd
      cases q2 : argsD ms rs env1 with
      | none => rw [q2] at hd; cases hd
      | some p =>
        obtain ⟨ds1, is1, env2⟩ := p
        rw [q2] at hd
        cases hd
        obtain ⟨O1, p1, r1⟩ := Post.take e h.1 q1
        have nd' := List.nodup_append.mp nd
        obtain ⟨O2, T, p2, a2, n2, i2, t2, o2⟩ := args_sound p1.er (Post.vds p1 e h.2 fun a ha hb => (nd'.2.2 a hb a ha) rfl) nd'.2.1 q2
        have p := p1.trans p2
        refine ⟨O2, T, ⟨p.ext.mono fun x z => z.elim .inl fun z => .inr (List.mem_append.mpr z), p.er, p.new, fun x z n t => p.hold x z n fun q => t (List.mem_append.mpr q), p.root, fun x z => p.tO x (List.mem_append.mp z), p.refs⟩, ⟨p2.rep p1.er r1, a2⟩, ?_, ?_, fun a ha => ⟨List.mem_append_right _ (t2 a ha).1, (t2 a ha).2⟩, ?_⟩
        · exact n2
        · exact i2
        · exact o2
  | true :: ms, .bw i :: rs, v :: vs, ds, is, O, env, env', e, h, nd, hd => by
    have hd : (match argsD ms rs env with
      | some (ds, is, env) => (match ownD env i with
        | some d => if is.contains (some i) then none else some (d :: ds, some i :: is, env)
        | none => none)
      | none => none) = some (ds, is, env') := hd
    have hv : σ[i]? = some (some v) := h.1
    have nd : (tmps rs vs).Nodup := by
      have : tmps (.bw i :: rs) (v :: vs) = tmps rs vs := by show tmp _ _ ++ _ = _; rw [tmp_bw]; rfl
      rw [← this]; exact nd
    cases q2 : argsD ms rs env with
    | none => rw [q2] at hd; cases hd
    | some p =>
      obtain ⟨ds1, is1, env2⟩ := p
      rw [q2] at hd
      simp only at hd
      cases q3 : ownD env2 i with
      | none => rw [q3] at hd; cases hd
      | some d =>
        rw [q3] at hd
        simp only at hd
        by_cases q4 : is1.contains (some i) = true
        · rw [if_pos q4] at hd; cases hd
        · rw [if_neg q4] at hd
          cases hd
          obtain ⟨O2, T, p2, a2, n2, i2, t2, o2⟩ := args_sound e h.2 nd q2
          have et : tmps (.bw i :: rs) (v :: vs) = tmps rs vs := by show tmp _ _ ++ _ = _; rw [tmp_bw]; rfl
          have ho := ownD_some q3
          obtain ⟨a, ha1, ha2, ha3⟩ := p2.er.own i d ho
          rw [hv] at ha1
          cases ha1
          rw [et]
          refine ⟨O2, T, p2, ⟨⟨a, rfl, ha2, ha3⟩, a2⟩, List.nodup_cons.mpr ⟨fun z => ?_, n2⟩, ⟨⟨d, ho⟩, hv, i2⟩, t2, fun b hb => ?_⟩
          · have := IsR.mem (X := X) (H := H) (O := O2) i2 z (fun b hb => (t2 b hb).2.2) ⟨i, d, ho, hv⟩ hv ⟨d, ho⟩ p2.er
            exact q4 (by simpa using this)
          · rcases List.mem_cons.mp hb with z | z
            · rw [z]; exact ha2
            · exact o2 b z
  | true :: ms, .fr d :: rs, v :: vs, ds, is, O, env, env', e, h, nd, hd => by
    have hd : (match argsD ms rs env with
      | some (ds, is, env) => some (d :: ds, none :: is, env)
      | none => none) = some (ds, is, env') := hd
    obtain ⟨a, e1, e2, e3, e4⟩ := h.1
    subst e1
    have et : tmps (.fr d :: rs) (.ref a :: vs) = a :: tmps rs vs := rfl
    rw [et] at nd ⊢
    have nd' := List.nodup_cons.mp nd
    cases q2 : argsD ms rs env with
    | none => rw [q2] at hd; cases hd
    | some p =>
      obtain ⟨ds1, is1, env2⟩ := p
      rw [q2] at hd
      cases hd
      obtain ⟨O2, T, p2, a2, n2, i2, t2, o2⟩ := args_sound e h.2 nd'.2 q2
      have hO2 : O2 a := p2.hold a e2 e3 fun z => nd'.1 z
      have hR2 : ¬ Root σ env' a := fun z => e3 (p2.root a z)
      refine ⟨O2, a :: T, ⟨p2.ext.mono fun x z => z.elim .inl fun z => .inr (List.mem_cons_of_mem _ z), p2.er, p2.new, fun x z n t => p2.hold x z n fun q => t (List.mem_cons_of_mem _ q), p2.root, fun x z => ?_, p2.refs⟩, ⟨⟨a, rfl, hO2, Shp.step (p2.fz e) (fun o q _ => q) e4⟩, a2⟩, List.nodup_cons.mpr ⟨fun z => ?_, n2⟩, ⟨List.mem_cons_self, ?_⟩, fun b hb => ?_, fun b hb => ?_⟩
      · rcases List.mem_cons.mp z with z | z
        · rw [z]; exact .inl e2
        · exact p2.tO x z
      · have key : ∀ {is : List (Option Nat)} {as : List Addr}, IsR σ env' T is as → a ∈ as → False := by
          intro is
          induction is with
          | nil => intro as h ha; cases as with
            | nil => exact nomatch ha
            | cons b as => exact h
          | cons j is ih =>
            intro as h ha
            cases as with
            | nil => exact nomatch ha
            | cons b as =>
              cases j with
              | none =>
                rcases List.mem_cons.mp ha with z | z
                · subst z
                  exact nd'.1 (t2 a h.1).1
                · exact ih h.2 z
              | some j =>
                rcases List.mem_cons.mp ha with z | z
                · subst z
                  obtain ⟨⟨d', h1⟩, h2, _⟩ := h
                  exact hR2 ⟨j, d', h1, h2⟩
                · exact ih h.2.2 z
        exact key i2 z
      · have mono : ∀ {is : List (Option Nat)} {as : List Addr}, IsR σ env' T is as → IsR σ env' (a :: T) is as := by
          intro is
          induction is with
          | nil => intro as h; cases as <;> exact h
          | cons j is ih =>
            intro as h
            cases as with
            | nil => cases j <;> exact h
            | cons b as =>
              cases j with
              | none => exact ⟨List.mem_cons_of_mem _ h.1, ih h.2⟩
              | some j => exact ⟨h.1, h.2.1, ih h.2.2⟩
        exact mono i2
      · rcases List.mem_cons.mp hb with z | z
        · rw [z]; exact ⟨List.mem_cons_self, hO2, hR2⟩
        · exact ⟨List.mem_cons_of_mem _ (t2 b z).1, (t2 b z).2⟩
      · rcases List.mem_cons.mp hb with z | z
        · rw [z]; exact hO2
        · exact o2 b z
  | true :: ms, .fz d :: rs, v :: vs, ds, is, O, env, env', e, h, nd, hd => nomatch hd

/-! ### behind the call -/
theorem putOwn_some {i : Nat} {d : D} (h : putOwn env i d = some env') : (∃ d0, env[i]? = some (.own d0) ∧ env' = env.set i (.own d)) ∨ (∃ d0, env[i]? = some (.ref d0) ∧ env' = env.set i (.ref d)) := by
  unfold putOwn at h
  cases q : env[i]? with
  | none => rw [q] at h; cases h
  | some s =>
    rw [q] at h
    cases s with
    | own d' => exact .inl ⟨d', rfl, (Option.some.inj h).symm⟩
    | ref d' => exact .inr ⟨d', rfl, (Option.some.inj h).symm⟩
    | _ => cases h
/-- a slot of a kind -/
def SameKind (s t : Slot) : Prop := match s, t with
  | .own _, .own _ => True
  | .ref _, .ref _ => True
  | _, _ => False
/-- what outsD makes of the frame -/
theorem outsD_get : ∀ {is : List (Option Nat)} {ds : List D} {env env' : Env} {T : List Addr} {as : List Addr}, outsD is ds env = some env' → IsR σ env T is as → as.Nodup → OutR X.K H O as ds →
    env'.length = env.length ∧ (∀ j, some j ∉ is → env'[j]? = env[j]?) ∧ (∀ j, some j ∈ is → ∃ a d, σ[j]? = some (some (.ref a)) ∧ Shp X.K H O d a ∧ ((∃ d0, env[j]? = some (.own d0) ∧ env'[j]? = some (.own d)) ∨ ∃ d0, env[j]? = some (.ref d0) ∧ env'[j]? = some (.ref d)))
  | [], [], env, env', T, as, h, hi, nd, ho => by
    have h : some env = some env' := h
    cases h
    exact ⟨rfl, fun _ _ => rfl, fun j hj => nomatch hj⟩
  | [], _ :: _, _, _, _, _, h, _, _, _ => nomatch h
  | some _ :: _, [], _, _, _, _, h, _, _, _ => nomatch h
  | none :: _, [], _, _, _, _, h, _, _, _ => nomatch h
  | none :: is, d :: ds, env, env', T, [], h, hi, nd, ho => hi.elim
  | some _ :: is, d :: ds, env, env', T, [], h, hi, nd, ho => hi.elim
  | none :: is, d :: ds, env, env', T, a :: as, h, hi, nd, ho => by
    obtain ⟨g1, g2, g3⟩ := outsD_get (is := is) h hi.2 (List.nodup_cons.mp nd).2 ho.2
    exact ⟨g1, fun j hj => g2 j fun z => hj (List.mem_cons_of_mem _ z), fun j hj => g3 j ((List.mem_cons.mp hj).elim (fun z => nomatch z) id)⟩
  | some i :: is, d :: ds, env, env', T, a :: as, h, hi, nd, ho => by
    have h : (match putOwn env i d with
      | some env => outsD is ds env
      | none => none) = some env' := h
    obtain ⟨hk, hs, hi2⟩ := hi
    have ni : some i ∉ is := by
      intro z
      have key : ∀ {is : List (Option Nat)} {as : List Addr}, IsR σ env T is as → some i ∈ is → a ∈ as := by
        intro is
        induction is with
        | nil => intro as _ z; exact nomatch z
        | cons j is ih =>
          intro as h z
          cases as with
          | nil => cases j <;> exact h.elim
          | cons b as =>
            cases j with
            | none => exact List.mem_cons_of_mem _ (ih h.2 ((List.mem_cons.mp z).elim (fun q => nomatch q) id))
            | some j =>
              rcases List.mem_cons.mp z with q | q
              · cases q
                have := h.2.1
                rw [hs] at this
                cases this
                exact List.mem_cons_self
              · exact List.mem_cons_of_mem _ (ih h.2.2 q)
      exact (List.nodup_cons.mp nd).1 (key hi2 z)
    cases q : putOwn env i d with
    | none => rw [q] at h; cases h
    | some env1 =>
      rw [q] at h
      simp only at h
      have q' := putOwn_some q
      have hget : ∀ j, j ≠ i → env1[j]? = env[j]? := fun j hj => by
        rcases q' with ⟨d0, _, e⟩ | ⟨d0, _, e⟩ <;> (rw [e, List.getElem?_set_ne (Ne.symm hj)])
      have hlen : env1.length = env.length := by rcases q' with ⟨d0, _, e⟩ | ⟨d0, _, e⟩ <;> rw [e, List.length_set]
      have hil : i < env.length := by
        rcases q' with ⟨d0, e0, _⟩ | ⟨d0, e0, _⟩ <;> exact (List.getElem?_eq_some_iff.mp e0).1
      have hI : IsR σ env1 T is as := by
        have mono : ∀ {is : List (Option Nat)} {as : List Addr}, some i ∉ is → IsR σ env T is as → IsR σ env1 T is as := by
          intro is
          induction is with
          | nil => intro as _ h; cases as <;> exact h
          | cons j is ih =>
            intro as nj h
            cases as with
            | nil => cases j <;> exact h.elim
            | cons b as =>
              cases j with
              | none => exact ⟨h.1, ih (fun z => nj (List.mem_cons_of_mem _ z)) h.2⟩
              | some j =>
                have hj : j ≠ i := fun z => nj (by rw [z]; exact List.mem_cons_self)
                exact ⟨by rw [hget j hj]; exact h.1, h.2.1, ih (fun z => nj (List.mem_cons_of_mem _ z)) h.2.2⟩
        exact mono ni hi2
      obtain ⟨g1, g2, g3⟩ := outsD_get (is := is) h hI (List.nodup_cons.mp nd).2 ho.2
      refine ⟨g1.trans hlen, fun j hj => ?_, fun j hj => ?_⟩
      · have hj1 : j ≠ i := fun z => hj (by rw [z]; exact List.mem_cons_self)
        rw [g2 j fun z => hj (List.mem_cons_of_mem _ z), hget j hj1]
      · rcases List.mem_cons.mp hj with z | z
        · have z : j = i := Option.some.inj z
          subst z
          refine ⟨a, d, hs, ho.1, ?_⟩
          rw [g2 j ni]
          rcases q' with ⟨d0, e0, e⟩ | ⟨d0, e0, e⟩
          · exact .inl ⟨d0, e0, by rw [e, List.getElem?_set_self hil]⟩
          · exact .inr ⟨d0, e0, by rw [e, List.getElem?_set_self hil]⟩
        · have hj1 : j ≠ i := fun y => ni (by rw [← y]; exact z)
          obtain ⟨b, d', h1, h2, h3⟩ := g3 j z
          refine ⟨b, d', h1, h2, ?_⟩
          rw [hget j hj1] at h3
          exact h3
/-- THE FRAME BEHIND A CALL -/
theorem outs_post {is : List (Option Nat)} {outs : List D} {R T : List Addr} (e : EnvR X.K H O σ env) (hi : IsR σ env T is R) (nd : R.Nodup) (hT : ∀ a ∈ T, O a ∧ ¬ Root σ env a) (hRO : ∀ a ∈ R, O a) (c : CPost X.K R H O H' O' outs) (ho : outsD is outs env = some env') :
    Post X.K σ (fun a => a ∈ T) H O env H' O' env' := by
  obtain ⟨g1, g2, g3⟩ := outsD_get ho hi nd c.outs
  have f : Fz H O H' O' := ⟨fun a o h n t => c.ext.keep a o h (fun z => n (hRO a z)) t, c.new, c.ext.dom⟩
  have inR : ∀ {is : List (Option Nat)} {as : List Addr}, IsR σ env T is as → ∀ a ∈ as, (∃ i, some i ∈ is ∧ σ[i]? = some (some (.ref a))) ∨ a ∈ T := by
    intro is
    induction is with
    | nil =>
      intro as h a ha
      cases as with
      | nil => exact nomatch ha
      | cons b as => exact h.elim
    | cons j is ih =>
      intro as h a ha
      cases as with
      | nil => exact nomatch ha
      | cons b as =>
        cases j with
        | none =>
          rcases List.mem_cons.mp ha with z | z
          · exact .inr (by rw [z]; exact h.1)
          · exact (ih h.2 a z).imp (fun ⟨i, q, r⟩ => ⟨i, List.mem_cons_of_mem _ q, r⟩) id
        | some j =>
          rcases List.mem_cons.mp ha with z | z
          · exact .inl ⟨j, List.mem_cons_self, by rw [z]; exact h.2.1⟩
          · exact (ih h.2.2 a z).imp (fun ⟨i, q, r⟩ => ⟨i, List.mem_cons_of_mem _ q, r⟩) id
  have isOwn : ∀ {is : List (Option Nat)} {as : List Addr}, IsR σ env T is as → ∀ i, some i ∈ is → ∃ d, env[i]? = some (.own d) ∨ env[i]? = some (.ref d) := by
    intro is
    induction is with
    | nil => intro as _ i hi; exact nomatch hi
    | cons j is ih =>
      intro as h i hi
      cases as with
      | nil => cases j <;> exact h.elim
      | cons b as =>
        cases j with
        | none => exact ih h.2 i ((List.mem_cons.mp hi).elim (fun q => nomatch q) id)
        | some j =>
          rcases List.mem_cons.mp hi with z | z
          · cases z; exact h.1
          · exact ih h.2.2 i z
  -- an own slot behind was an own slot ahead
  have back : ∀ (j : Nat) (d : D), (env'[j]? = some (.own d) ∨ env'[j]? = some (.ref d)) → ∃ d0, env[j]? = some (.own d0) ∨ env[j]? = some (.ref d0) := fun j d h => by
    by_cases hj : some j ∈ is
    · obtain ⟨a, d', _, _, h3⟩ := g3 j hj
      rcases h3 with ⟨d0, q, _⟩ | ⟨d0, q, _⟩
      · exact ⟨d0, .inl q⟩
      · exact ⟨d0, .inr q⟩
    · rw [g2 j hj] at h
      exact ⟨d, h⟩
  refine ⟨c.ext.mono fun a z => ?_, ⟨g1.trans e.len, fun j d h => ?_, fun j d h => ?_, fun j k a d1 d2 h1 h2 => ?_, c.dom⟩, c.new, fun a h _ _ => c.hold a h, fun a z => ?_, fun a z => .inl (hT a z).1, fun j => ?_⟩
  · rcases inR hi a z with ⟨i, q, r⟩ | q
    · obtain ⟨d, hd⟩ := isOwn hi i q
      exact .inl ⟨i, d, hd, r⟩
    · exact .inr q
  · by_cases hj : some j ∈ is
    · obtain ⟨a, d', _, _, h3⟩ := g3 j hj
      rcases h3 with ⟨d0, _, q⟩ | ⟨d0, _, q⟩ <;> (rw [q] at h; cases h)
    · rw [g2 j hj] at h
      obtain ⟨v, h1, h2⟩ := e.val j d h
      exact ⟨v, h1, Rep.step f d v h2⟩
  · by_cases hj : some j ∈ is
    · obtain ⟨a, d', h1, h2, h3⟩ := g3 j hj
      have ed : d = d' := by
        rcases h3 with ⟨d0, _, q⟩ | ⟨d0, _, q⟩ <;> rw [q] at h <;> rcases h with h | h <;> cases h <;> rfl
      subst ed
      obtain ⟨d0, hd0⟩ := isOwn hi j hj
      obtain ⟨b, hb1, hb2, _⟩ := e.own j d0 hd0
      rw [h1] at hb1
      cases hb1
      exact ⟨a, h1, c.hold a hb2, h2⟩
    · rw [g2 j hj] at h
      obtain ⟨a, h1, h2, h3⟩ := e.own j d h
      refine ⟨a, h1, c.hold a h2, h3.step f fun o q t => c.ext.keep a o q (fun z => ?_) t⟩
      rcases inR hi a z with ⟨i, qi, r⟩ | q
      · obtain ⟨d', hd'⟩ := isOwn hi i qi
        have : i = j := e.apart i j a d' d hd' h r h1
        exact hj (by rw [← this]; exact qi)
      · exact (hT a q).2 ⟨j, d, h, h1⟩
  · obtain ⟨d1', h1'⟩ := back j d1 h1
    obtain ⟨d2', h2'⟩ := back k d2 h2
    exact e.apart j k a d1' d2' h1' h2'
  · obtain ⟨j, d, h, hs⟩ := z
    obtain ⟨d0, h0⟩ := back j d h
    exact ⟨j, d0, h0, hs⟩
  · by_cases hj : some j ∈ is
    · obtain ⟨a, d', _, _, h3⟩ := g3 j hj
      rcases h3 with ⟨d0, q1, q2⟩ | ⟨d0, q1, q2⟩
      · exact ⟨fun ⟨d1, z⟩ => (by rw [q1] at z; cases z), fun ⟨d1, z⟩ => (by rw [q2] at z; cases z)⟩
      · exact ⟨fun _ => ⟨_, q2⟩, fun _ => ⟨_, q1⟩⟩
    · rw [g2 j hj]
theorem refA_rtV {ms : List Bool} : ∀ {rs : List Vd} {vs : List V} {j i : Nat}, VdRs X.K H O σ env rs vs → ms[j]? = some true → rs[j]? = some (.bw i) → ∀ v, vs[j]? = some v → σ[i]? = some (some v) := by
  intro rs
  induction rs generalizing ms with
  | nil => intro vs j i _ _ h; simp at h
  | cons r rs ih =>
    intro vs j i h hm hr v hv
    cases vs with
    | nil => exact h.elim
    | cons w vs =>
      cases j with
      | zero =>
        simp at hr hv
        subst hr hv
        exact h.1
      | succ j =>
        cases ms with
        | nil => simp at hm
        | cons m ms => exact ih (ms := ms) h.2 (by simpa using hm) (by simpa using hr) v (by simpa using hv)

/-! ### a def's promise, the guards known -/
structure FnG (P : Program) (w : World) (K : PySem.W.Frag) (mg : Str → Option Value) (base : Heap) (cx : CXT) (k : Nat) (f : Addr) (fd : FuncData) (ps : List Str) (sp : Sp) : Prop where
  many : ∀ (vs : List V) (H : Hp) (Q : VK) (E : XK), sp vs H Q E → vs.length = ps.length
  go : ∀ (A : Around) (outer : List PySem.Env) (s : Shared) (H : Hp) (args : Args) (us : List Value) (vs : List V) (Q : VK) (E : XK), A.guards = some [] → Room (k + 2) A → Env0 P w K mg base A outer s H → BindsTo s fd args (ps.zip us) →
    Vals vs us → sp vs H Q E → codeAny (model P w) A (.call (.ref f) args) (CR cx outer P w H s Q E) s
end
end PB

/-! PBh -/
/-! PB, part H: calls of defs, the end. -/
namespace PB
open PySem L2
variable [Tb]
section
variable {G : Glob} {X : Cx} {C : Callee} {fns : List Fn} {σ : L2.St} {H H' : Hp} {O O' : Addr → Prop} {env env' : Env} {W : WX}
theorem ArgR.len {K : PySem.W.Frag} : ∀ {ms : List Bool} {ds : List D} {vs : List V}, ArgR K H O ms ds vs → ms.length = vs.length ∧ ds.length = vs.length
  | [], [], [], _ => ⟨rfl, rfl⟩
  | false :: ms, d :: ds, v :: vs, h => by
    obtain ⟨h1, h2⟩ := ArgR.len h.2
    exact ⟨by rw [List.length_cons, List.length_cons, h1], by rw [List.length_cons, List.length_cons, h2]⟩
  | true :: ms, d :: ds, v :: vs, h => by
    obtain ⟨h1, h2⟩ := ArgR.len h.2
    exact ⟨by rw [List.length_cons, List.length_cons, h1], by rw [List.length_cons, List.length_cons, h2]⟩
  | [], [], _ :: _, h => h.elim
  | [], _ :: _, _, h => h.elim
  | false :: _, [], _, h => h.elim
  | true :: _, [], _, h => h.elim
  | false :: _, _ :: _, [], h => h.elim
  | true :: _, _ :: _, [], h => h.elim
/-- the call as the evaluator has it: the def's promise -/
theorem call_sp {f : Nat} {fn : Fn} {rs : List Vd} {vs : List V} {H1 : Hp} {O1 : Addr → Prop} {env1 : Env} {Q : VK} (hf : fns[f]? = some fn) (hml : fn.modes.length = fn.ps.length) (er : EnvR X.K H O σ env) (p1 : RPosts X.K σ H O env H1 O1 env1 rs vs)
    (h : WOut G X W σ H O env (callV C fns f rs env1) (fun r env' => ∀ v H' O', RPost X.K σ H O env H' O' env' r v → Q v H')) : spF G X.K C f fn vs H1 Q (fun cls d H' => W cls d σ H') := by
  unfold callV at h
  rw [hf] at h
  simp only at h
  cases q1 : argsD fn.modes rs env1 with
  | none => rw [q1] at h; exact (show False from h).elim
  | some pr =>
    obtain ⟨ds, is, env2⟩ := pr
    rw [q1] at h
    simp only at h
    obtain ⟨O2, T, p2, a2, n2, i2, t2, o2⟩ := args_sound p1.p.er p1.vr p1.nd q1
    have p12 := p1.p.trans p2
    refine ⟨O2, ds, ?_, a2, n2, p2.er.dom, ?_⟩
    · rw [← hml]; exact (ArgR.len a2).1.symm
    · cases q2 : C f ds with
      | err => rw [q2] at h; exact h
      | ret r outs =>
        rw [q2] at h
        simp only at h ⊢
        intro v H3 O3 c hr
        cases q3 : outsD is outs env2 with
        | none => rw [q3] at h; exact (show False from h).elim
        | some env3 =>
          rw [q3] at h
          simp only at h
          have p3 := outs_post p2.er i2 n2 (fun a ha => (t2 a ha).2) o2 c q3
          have p := (p12.trans p3).clean er fun a z => by
            rcases z with (z | z) | z
            · exact z.elim
            · exact p1.t a z
            · exact p1.t a (t2 a z).1
          cases q4 : rtV fn.modes rs r with
          | none => rw [q4] at h; exact (show False from h).elim
          | some v' =>
            rw [q4] at h
            cases r with
            | fz d =>
              cases q4
              exact h v H3 O3 ⟨p, hr, fun a ha => by rw [tmp_fz] at ha; exact nomatch ha⟩
            | fr d =>
              cases q4
              obtain ⟨a, e1, e2, e3, e4⟩ := hr
              subst e1
              refine h _ H3 O3 ⟨p, ⟨a, rfl, e2, fun z => ?_, e4⟩, fun b hb => ?_⟩
              · obtain ⟨o, q, _⟩ := p2.er.dom a (p2.er.rootO (p3.root a z))
                rw [e3] at q; cases q
              · have z : b = a := by simpa [tmp] using hb
                rw [z]
                exact p1.p.ext.free e3
            | prm j =>
              have q4 : (match fn.modes[j]?, rs[j]? with
                | some true, some (.bw i) => some (Vd.bw i)
                | _, _ => none) = some v' := q4
              cases m1 : fn.modes[j]? with
              | none => rw [m1] at q4; cases q4
              | some b =>
                cases b with
                | false => rw [m1] at q4; cases q4
                | true =>
                  cases m2 : rs[j]? with
                  | none => rw [m1, m2] at q4; cases q4
                  | some x =>
                    cases x with
                    | fz d => rw [m1, m2] at q4; cases q4
                    | fr d => rw [m1, m2] at q4; cases q4
                    | bw i =>
                      rw [m1, m2] at q4
                      have q4 : Vd.bw i = v' := Option.some.inj q4
                      subst q4
                      exact h v H3 O3 ⟨p, refA_rtV p1.vr m1 m2 v hr, fun a ha => by rw [tmp_bw] at ha; exact nomatch ha⟩
      | exc x outs =>
        rw [q2] at h
        simp only at h ⊢
        intro cls d H3 O3 c hr
        cases q3 : outsD is outs env2 with
        | none => rw [q3] at h; exact (show False from h).elim
        | some env3 =>
          rw [q3] at h
          simp only at h
          have p3 := outs_post p2.er i2 n2 (fun a ha => (t2 a ha).2) o2 c q3
          have p := (p12.trans p3).clean er fun a z => by
            rcases z with (z | z) | z
            · exact z.elim
            · exact p1.t a z
            · exact p1.t a (t2 a z).1
          exact h cls d H3 O3 ⟨p, hr⟩
/-- the def runs -/
theorem run_fnG {pins : List (Addr × Obj)} {s : Shared} {k : Nat} {f : Addr} {fd : FuncData} {ps : List Str} {sp : Sp} {args : Args} {us : List Value} {vs : List V} {Q : VK} (F : FnG X.prog X.w X.K X.mg X.base (CX X.prog X.w) k f fd ps sp) (hg : X.A.guards = some []) (hr : Room (k + 2) X.A) (tk : Takes X W)
    (I : Inv X pins σ H s) (hb : BindsTo s fd args (ps.zip us)) (r : Vals vs us) (h : sp vs H Q (fun cls d H' => W cls d σ H')) : codeAny (model X.prog X.w) X.A (.call (.ref f) args) (fun r s' => match r with
      | .ok (.ret u) => EP X pins σ Q u s'
      | .ok _ => False
      | .error e => X.xe e s') s := by
  refine codeAny_mono (F.go X.A X.stack s H args us vs Q _ hg hr I.env0 hb r h) fun res s' hq => ?_
  cases res with
  | error e => exact tk e s' (XE.of_call I (fun _ _ _ z => z) hq)
  | ok fl =>
    cases fl with
    | ret u => exact I.after hq
    | next => exact hq
    | brk => exact hq
    | cont => exact hq
theorem call_any {α : Type} {M : Model} {A : Around} {f : Value} {us : List Value} {kw : List (Str × Value)} {Q : Value → Shared → Prop} {E : Value → Shared → Prop} {s : Shared} (h : codeAny M A (.call f ⟨us, kw⟩) (fun r s' => match r with
      | .ok (.ret u) => Q u s'
      | .ok _ => False
      | .error e => E e s') s) : wpAny M A (call f us kw) Q E s := by
  refine wpAny_call (codeAny_mono h fun r s' hq => ?_)
  cases r with
  | error e => exact hq
  | ok fl =>
    cases fl with
    | ret u => exact hq
    | next => exact hq
    | brk => exact hq
    | cont => exact hq
theorem se_call {k f : Nat} {fn : Fn} {fa : Addr} {fd : FuncData} {e : Expr} {es : List Expr} {irs : List E} {p pos : Pos} (hf : fns[f]? = some fn) (hml : fn.modes.length = fn.ps.length) (F : FnG X.prog X.w X.K X.mg X.base (CX X.prog X.w) k fa fd fn.ps (spF G X.K C f fn))
    (hg : X.A.guards = some []) (hr : Room (k + 2) X.A) (hgl : Gl X fn.name) (hm : X.mg fn.name = some (.ref fa)) (hk : PySem.W.keepIn X.K (.ref fa) = true) (hb : Binds X.K fd fn.ps []) (hdb : (fn.name == ("__debug__" : Str)) = false)
    (hs : starEach (e :: es) X.env = (false, eval e X.env) :: starEach es X.env) (hpl : (backTo pos (starEach es X.env)).any (·.1) = false) (ha : SA G X C fns (e :: es) irs) : SE G X C fns (.Call (.Name fn.name p) (e :: es) [] pos) (.call f irs) := by
  intro σ H O env Q W tk er h
  intro pins s I
  simp only [evE] at h
  refine wpAny_Call_Name_kw (ld_glob I hgl hm ?_ hdb)
  have ta : TMa X (e :: es) σ H (fun vs H1 => spF G X.K C f fn vs H1 Q (fun cls d H' => W cls d σ H')) :=
    ha σ H O env _ W tk er (Out.mono h.bind (fun rs env1 _ g vs H1 O1 p1 => call_sp hf hml er p1 g) fun _ _ k => k)
  refine PySem.W.callWith_K (h₀ := X.base) I.ok.mod.kin hk (thn (ta pos pins s I) fun us s1 ⟨vs, H1, I1, r, q⟩ => ⟨I1.kIn, ?_⟩) hs hpl
  have hl : (us ++ []).length = fn.ps.length := by rw [List.append_nil, ← r.length]; exact F.many _ _ _ _ q
  have hb1 := hb s1 us I1.kIn hl
  rw [List.append_nil] at hb1
  exact call_any (α := Unit) (run_fnG F hg hr tk I1 hb1 r q)
/-! ### keywords -/
def TMk (X : Cx) (kws : List Keyword) (σ : L2.St) (H : Hp) (Q : List V → Hp → Prop) : Prop := ∀ (pos : Pos) (pins : List (Addr × Obj)) (s : Shared), Inv X pins σ H s → wpAny (model X.prog X.w) X.A (evalAll ((backToKw pos (keywordEach kws X.env)).map (·.2))) (AP X pins σ Q) X.xe s
theorem pkM (kws : List Keyword) : PK X kws (TMk X kws) := ⟨fun pos pins s _ _ _ I h => h pos pins s I⟩
theorem TMk.of {kws : List Keyword} {t : TA} {Q : List V → Hp → Prop} (h : PK X kws t) (q : t σ H Q) : TMk X kws σ H Q := fun pos pins s I => h.run pos pins s σ H Q I q
def SK (G : Glob) (X : Cx) (C : Callee) (fns : List Fn) (kws : List Keyword) (irs : List E) : Prop := ∀ (σ : L2.St) (H : Hp) (O : Addr → Prop) (env : Env) (Q : List V → Hp → Prop) (W : WX), Takes X W → EnvR X.K H O σ env →
  WOut G X W σ H O env (evEs C fns irs env) (fun rs env' => ∀ vs H' O', RPosts X.K σ H O env H' O' env' rs vs → Q vs H') → TMk X kws σ H Q
theorem sk_nil : SK G X C fns [] [] := fun σ H O env Q W tk er h => TMk.of pk_nil (by
  simp only [evEs] at h
  exact h [] H O ⟨Post.refl er, trivial, List.nodup_nil, fun a ha => nomatch ha⟩)
theorem sk_cons {e : Expr} {nm : Option Str} {kp : Pos} {kws : List Keyword} {ir : E} {irs : List E} (h1 : SE G X C fns e ir) (h2 : SK G X C fns kws irs) : SK G X C fns (⟨nm, e, kp⟩ :: kws) (ir :: irs) := by
  intro σ H O env Q W tk er h
  simp only [evEs] at h
  refine TMk.of (pk_cons (peM e) (pkM kws)) ?_
  refine h1 σ H O env _ W tk er (Out.mono h.bind (fun x env1 _ g1 v H1 O1 p1 => ?_) fun _ _ k => k)
  have er1 := p1.p.er
  refine h2 σ H1 O1 env1 _ W tk er1 (WOut.behind p1.p g1.bind fun xs env2 _ g2 vs H2 O2 p2 => ?_)
  refine g2 (v :: vs) H2 O2 ⟨p1.p.then0 p2.p, ⟨p2.p.vd er1 p1.vr fun a _ z => z, p2.vr⟩, ?_, fun a ha => ?_⟩
  · refine List.nodup_append.mpr ⟨?_, p2.nd, fun a ha b hb z => ?_⟩
    · cases x with
      | fr d => cases v <;> simp [tmp]
      | fz d => rw [tmp_fz]; exact List.nodup_nil
      | bw d => rw [tmp_bw]; exact List.nodup_nil
    · obtain ⟨o, q, _⟩ := er1.dom a (VdR.tmpO p1.vr a ha)
      rw [z, p2.t b hb] at q
      cases q
  · rcases List.mem_append.mp ha with z | z
    · exact p1.t a z
    · exact p1.p.ext.free (p2.t a z)
theorem noFr_tmps : ∀ {rs : List Vd} (vs : List V), noFr rs = true → tmps rs vs = []
  | [], vs, _ => by cases vs <;> rfl
  | r :: rs, [], _ => rfl
  | .fz d :: rs, v :: vs, h => by
    show tmp _ _ ++ tmps rs vs = []
    rw [tmp_fz, noFr_tmps (rs := rs) vs h]; rfl
  | .bw d :: rs, v :: vs, h => by
    show tmp _ _ ++ tmps rs vs = []
    rw [tmp_bw, noFr_tmps (rs := rs) vs h]; rfl
  | .fr d :: rs, v :: vs, h => nomatch h
theorem VdRs.get : ∀ {rs : List Vd} {vs : List V} {i : Nat} {r : Vd}, VdRs X.K H O σ env rs vs → rs[i]? = some r → ∃ v, vs[i]? = some v ∧ VdR X.K H O σ env r v
  | [], _, i, r, _, h => by simp at h
  | _ :: _, [], _, _, h, _ => h.elim
  | r :: rs, v :: vs, 0, r', h, e => by
    simp at e
    subst e
    exact ⟨v, rfl, h.1⟩
  | r :: rs, v :: vs, i + 1, r', h, e => by
    obtain ⟨w, h1, h2⟩ := VdRs.get (i := i) h.2 (by simpa using e)
    exact ⟨w, by simpa using h1, h2⟩
theorem perm_vds {rs : List Vd} {vs : List V} (h : VdRs X.K H O σ env rs vs) (hn : noFr rs = true) : ∀ {pm : List Nat} {ws : List Vd}, permL rs pm = some ws → ∃ zs, permL vs pm = some zs ∧ VdRs X.K H O σ env ws zs ∧ noFr ws = true
  | [], ws, e => by
    have e : some [] = some ws := e
    cases e
    exact ⟨[], rfl, trivial, rfl⟩
  | i :: pm, ws, e => by
    unfold permL at e
    cases q1 : rs[i]? with
    | none => rw [q1] at e; cases e
    | some x =>
      cases q2 : permL rs pm with
      | none => rw [q1, q2] at e; cases e
      | some r =>
        rw [q1, q2] at e
        have e : x :: r = ws := Option.some.inj e
        subst e
        obtain ⟨v, g1, g2⟩ := VdRs.get h q1
        obtain ⟨zs, g3, g4, g5⟩ := perm_vds h hn q2
        refine ⟨v :: zs, ?_, ⟨g2, g4⟩, ?_⟩
        · unfold permL
          rw [g1, g3]
        · have key : ∀ {rs : List Vd} {i : Nat}, noFr rs = true → rs[i]? = some x → ∀ d, x ≠ .fr d := by
            intro rs
            induction rs with
            | nil => intro i _ h; simp at h
            | cons r rs ih =>
              intro i hn hx d z
              subst z
              cases i with
              | zero =>
                simp at hx
                subst hx
                exact nomatch hn
              | succ i =>
                cases r with
                | fr d' => exact nomatch hn
                | fz d' => exact ih (i := i) hn (by simpa using hx) d rfl
                | bw d' => exact ih (i := i) hn (by simpa using hx) d rfl
          cases x with
          | fr d => exact (key hn q1 d rfl).elim
          | fz d => exact g5
          | bw d => exact g5
theorem permL_vals {vs : List V} {us : List Value} (r : Vals vs us) : ∀ {pm : List Nat} {zs : List V}, permL vs pm = some zs → ∃ ws, permL us pm = some ws ∧ Vals zs ws
  | [], zs, e => by
    have e : some [] = some zs := e
    cases e
    exact ⟨[], rfl, .nil⟩
  | i :: pm, zs, e => by
    unfold permL at e
    cases q1 : vs[i]? with
    | none => rw [q1] at e; cases e
    | some x =>
      cases q2 : permL vs pm with
      | none => rw [q1, q2] at e; cases e
      | some rr =>
        rw [q1, q2] at e
        have e : x :: rr = zs := Option.some.inj e
        subst e
        obtain ⟨u, g1, g2⟩ := r.get q1
        obtain ⟨ws, g3, g4⟩ := permL_vals r q2
        refine ⟨u :: ws, ?_, .cons g2 g4⟩
        unfold permL
        rw [g1, g3]
theorem evEs_len : ∀ {irs : List E} {env env' : Env} {rs : List Vd}, evEs C fns irs env = .ok rs env' → rs.length = irs.length
  | [], env, env', rs, h => by
    simp only [evEs] at h
    cases h
    rfl
  | e :: es, env, env', rs, h => by
    simp only [evEs] at h
    cases q1 : evE C fns e env with
    | ok x env1 =>
      rw [q1] at h
      simp only [Res.bind] at h
      cases q2 : evEs C fns es env1 with
      | ok xs env2 =>
        rw [q2] at h
        cases h
        rw [List.length_cons, List.length_cons, evEs_len q2]
      | exc z e => rw [q2] at h; cases h
      | err => rw [q2] at h; cases h
    | exc z e => rw [q1] at h; cases h
    | err => rw [q1] at h; cases h
theorem se_callK {k f : Nat} {fn : Fn} {fa : Addr} {fd : FuncData} {kws : List Keyword} {irs : List E} {pm : List Nat} {p pos : Pos} (hf : fns[f]? = some fn) (hml : fn.modes.length = fn.ps.length) (F : FnG X.prog X.w X.K X.mg X.base (CX X.prog X.w) k fa fd fn.ps (spF G X.K C f fn))
    (hg : X.A.guards = some []) (hr : Room (k + 2) X.A) (hgl : Gl X fn.name) (hm : X.mg fn.name = some (.ref fa)) (hk : PySem.W.keepIn X.K (.ref fa) = true) (hdb : (fn.name == ("__debug__" : Str)) = false)
    (hb : ∀ (s : Shared) (us ws : List Value), X.K.In s.heap → us.length = kws.length → permL us pm = some ws → BindsTo s fd ⟨[], (kws.filterMap (·.arg)).zip us⟩ (fn.ps.zip ws)) (hall : kws.all (·.arg.isSome) = true) (hlen : irs.length = kws.length) (ha : SK G X C fns kws irs) :
    SE G X C fns (.Call (.Name fn.name p) [] kws pos) (.callK f irs pm) := by
  intro σ H O env Q W tk er h
  intro pins s I
  simp only [evE] at h
  refine wpAny_Call_Name_kw (ld_glob I hgl hm ?_ hdb)
  have e1 : (backToKw pos (keywordEach kws X.env)).filterMap (·.1) = kws.filterMap (·.arg) := by
    clear hall hb ha hlen
    induction kws with
    | nil => rfl
    | cons a r ih =>
      obtain ⟨n, v, q⟩ := a
      show List.filterMap (·.1) ((n, _) :: backToKw pos (keywordEach r X.env)) = List.filterMap (·.arg) (⟨n, v, q⟩ :: r)
      cases n with
      | none => simpa [List.filterMap_cons] using ih
      | some x => simpa [List.filterMap_cons] using ih
  have e2 : (backToKw pos (keywordEach kws X.env)).all (·.1.isSome) = true := by
    clear e1 hb ha hlen
    induction kws with
    | nil => rfl
    | cons a r ih =>
      obtain ⟨n, v, q⟩ := a
      rw [List.all_cons, Bool.and_eq_true] at hall
      show (n.isSome && (backToKw pos (keywordEach r X.env)).all (·.1.isSome)) = true
      rw [Bool.and_eq_true]
      exact ⟨hall.1, ih hall.2⟩
  have e3 : ((backTo pos (starEach [] X.env)).any (·.1) || (backToKw pos (keywordEach kws X.env)).any (·.1.isNone)) = false := by
    clear e1 hb ha hlen
    have : (backToKw pos (keywordEach kws X.env)).any (·.1.isNone) = false := by
      rw [List.any_eq_false]
      intro x hx
      have := List.all_eq_true.mp e2 x hx
      cases q : x.1 with
      | none => rw [q] at this; exact nomatch this
      | some y => simp
    rw [this]; rfl
  have ta : TMk X kws σ H (fun vs H1 => vs.length = kws.length ∧ ∃ zs, permL vs pm = some zs ∧ spF G X.K C f fn zs H1 Q (fun cls d H' => W cls d σ H')) := by
    refine ha σ H O env _ W tk er (Out.mono h.bind (fun rs env1 hev g vs H1 O1 p1 => ?_) fun _ _ k => k)
    unfold callKV at g
    by_cases hn : noFr rs = true
    · rw [if_pos hn] at g
      cases q : permL rs pm with
      | none => rw [q] at g; exact (show False from g).elim
      | some ws =>
        rw [q] at g
        obtain ⟨zs, g1, g2, g3⟩ := perm_vds p1.vr hn q
        refine ⟨?_, zs, g1, call_sp hf hml er ⟨p1.p, g2, by rw [noFr_tmps zs g3]; exact List.nodup_nil, fun a ha => by rw [noFr_tmps zs g3] at ha; exact nomatch ha⟩ g⟩
        rw [← VdRs.length p1.vr, evEs_len hev, hlen]
    · rw [if_neg hn] at g; exact (show False from g).elim
  refine PySem.W.callWith_KW0 (h₀ := X.base) I.ok.mod.kin hk e2 (thn (ta pos pins s I) fun us s1 ⟨vs, H1, I1, r, hl, zs, qz, q⟩ => ⟨I1.kIn, ?_⟩) e3
  obtain ⟨ws, w1, w2⟩ := permL_vals r qz
  rw [e1]
  exact call_any (α := Unit) (run_fnG F hg hr tk I1 (hb s1 us ws I1.kIn (by rw [← r.length]; exact hl) w1) w2 q)
end
end PB

/-! PBi -/
/-! PB, part I: enumerate over a tuple. -/
namespace PB
open PySem L2 PySem.Spec PyProof.Rows
variable [Tb]

section
open AutoSeq1 (wpAny_loadPart')
theorem meets_enumT (l : Addr) (items : Array Value) (dct : Option Addr) (n : Nat) (sl : Array (Option Value)) :
    Meets (Builtin.«enumerate.__new__» { pos := [.type "enumerate", .ref l] }) (fun _ R s => s.heap.get? l = some ⟨.type "tuple", dct, .seq items n, sl⟩ ∧
      R (.ok (.ret (.ref (s.heap.push ⟨.type "tuple_iterator", none, .fields #[.ref l, .int 0 0], #[]⟩).objs.size)))
        { s with heap := (s.heap.push ⟨.type "tuple_iterator", none, .fields #[.ref l, .int 0 0], #[]⟩).push ⟨.type "enumerate", none, .fields #[.none, .bool false, .ref s.heap.objs.size, rawInt 0, .none, .none], #[]⟩ }) := by
  refine .of_wp fun prog w A R s h => ?_
  obtain ⟨hp, g, d, tk, os⟩ := s
  obtain ⟨hl, h⟩ := h
  have hsub := sub_enumerate
  have hT : Heap.IsTuple (Shared.heap ⟨hp, g, d, tk, os⟩) l items := ⟨_, hl, rfl, n, rfl⟩
  wp_walk using wpAny_loadPart' hl
  refine wpAny_stack_any fun st => wpAny_pure ?_
  split
  · rename_i c _ _ _ _ _
    cases (c == Value.type "enumerate") <;> (wp_walk using wpAny_loadPart' hl, wpAny_pyIter_tuple hT; exact ⟨_, rfl, h⟩)
  · wp_walk using wpAny_loadPart' hl, wpAny_pyIter_tuple hT; exact ⟨_, rfl, h⟩
end
theorem call_enumT {prog : Program} {w : World} {A : Around} {E : Value → Shared → Prop} {s : Shared} {l : Addr} {items : Array Value} {Q : Value → Shared → Prop} (hL : s.heap.IsTuple l items)
    (h : ∀ h', IsEnum h' (s.heap.objs.size + 1) s.heap.objs.size 0 .none → h'.IsTupleIter s.heap.objs.size l 0 → (∀ b o, s.heap.get? b = some o → h'.get? b = some o) → Q (.ref (s.heap.objs.size + 1)) { s with heap := h' }) :
    wpAny (model prog w) A (call (.type "enumerate") [.ref l]) Q E s := by
  obtain ⟨⟨c, dct, dt, sl⟩, hl, hc, n, hd⟩ := hL
  replace hc : c = .type "tuple" := hc
  replace hd : dt = .seq items n := hd
  subst hc hd
  refine callType_new F.called_enumerate (by decide) (F.typeCall_enumerate_1 _) (F.newCall_enumerate_1 _) (fun obj => F.args_object_init_2 obj _) F.entry_enumerate_new (meets_enumT l items dct n sl) ⟨hl, ?_⟩
  have hz : (s.heap.push ⟨.type "tuple_iterator", none, .fields #[.ref l, .int 0 0], #[]⟩).objs.size = s.heap.objs.size + 1 := Heap.size_push ..
  show _ ∧ _
  rw [hz]
  have he : IsEnum ((s.heap.push ⟨.type "tuple_iterator", none, .fields #[.ref l, .int 0 0], #[]⟩).push ⟨.type "enumerate", none, .fields #[.none, .bool false, .ref s.heap.objs.size, rawInt 0, .none, .none], #[]⟩) (s.heap.objs.size + 1) s.heap.objs.size 0 .none := by
    have := Heap.get?_push_size (s.heap.push ⟨.type "tuple_iterator", none, .fields #[.ref l, .int 0 0], #[]⟩) (o := ⟨.type "enumerate", none, .fields #[.none, .bool false, .ref s.heap.objs.size, rawInt 0, .none, .none], #[]⟩) rfl
    rw [hz] at this
    exact this
  exact ⟨⟨_, he, rfl⟩, h _ he ⟨_, Heap.get?_push_of_some _ (Heap.get?_push_size _ rfl), rfl, rfl⟩ fun b o x => Heap.get?_push_of_some _ (Heap.get?_push_of_some _ x)⟩

/-- the tuple at a, each item in a new pair -/
def Iet (K : PySem.W.Frag) (a : Addr) (xs : List V) : L2.It :=
  ⟨fun i H => SqT K H a xs ∧ i < xs.length, fun i H v H' => ∃ T x, v = .ref T ∧ H T = none ∧ H' = upd H T (.tup [.int (i : Nat), x]) ∧ xs[i]? = some x, fun i H => SqT K H a xs ∧ i = xs.length⟩
theorem turn_enumT {P : Program} {w : World} {K : PySem.W.Frag} {elts : List Expr} {kk : Nat} {tpos : Pos} {xs : List V} (a e it : Addr) (hai : a ≠ it) (hea : e ≠ a) :
    Turn P w K (.Tuple elts kk tpos) (Iet K a xs) [e, it] e (fun i h => (∃ old, IsEnum h e it ((i : Nat) : Int) old) ∧ h.IsTupleIter it a i ∧ e ≠ it) where
  mem := by simp
  obj := fun i h st b hb => by
    obtain ⟨⟨old, he⟩, ⟨o, ho, hc, hd⟩, _⟩ := st
    have e' : b = e ∨ b = it := by simpa using hb
    rcases e' with z | z
    · subst z; exact ⟨_, he, fun v q => nomatch q⟩
    · subst z; exact ⟨o, ho, fun v q => by rw [hd] at q; cases q⟩
  keep := fun i h h' st k => by
    obtain ⟨⟨old, he⟩, hi, hne⟩ := st
    exact ⟨⟨old, k e (by simp) _ he⟩, hi.at fun o q => k it (by simp) o q, hne⟩
  item := by
    intro X hP hw hK hc i pins s σ H E I hf st hg
    subst hP hw hK
    obtain ⟨⟨old, he⟩, hit, hne⟩ := st
    obtain ⟨hq, hi⟩ := hg
    obtain ⟨its, rv, p, hz⟩ := I.tuple hq
    have hl := rv.length
    have hel : e < s.heap.objs.size := Heap.lt_size he
    have hil : it < s.heap.objs.size := by obtain ⟨_, q, _⟩ := hit; exact Heap.lt_size q
    have D := Draws.tuple (prog := X.prog) (w := X.w) (A := X.A.in1) (I.ok.hd hc) it a hai its.toArray
    refine wpAny_pyNext_enum_itemD D he ⟨hit, p⟩ (by simp; omega) hne (by simp [hne, hea]) fun u h' tk hu ho hit' hT hsz hk => ?_
    have hu : its[i]? = some u := by simpa using hu
    obtain ⟨x, hx⟩ : ∃ x, xs[i]? = some x := ⟨xs[i], by simp [hi]⟩
    obtain ⟨u', hu', ru⟩ := rv.get hx
    rw [hu] at hu'
    cases hu'
    refine ⟨_, rfl, wpAny_letOwnedTupleGo_enum (s := { s with heap := h', toks := tk + 1 }) ho fun h'' he' sb => ?_⟩
    have hT2 : h''.get? s.heap.objs.size = some ⟨.type "tuple", none, .seq #[.int i tk, u] 0, #[]⟩ := (sb.2 _ (Nat.ne_of_gt hel)).trans hT
    have new : ObjOk X.prog X.w (upd H s.heap.objs.size (.tup [.int (i : Nat), x])) h'' s.heap.objs.size (.tup [.int (i : Nat), x]) :=
      ⟨by show 2 ≤ sizeLine; decide, [.int i tk, u], .cons ⟨_, rfl⟩ (.cons ru .nil), ⟨_, hT2, rfl, _, rfl⟩⟩
    have I1 : Inv X pins σ (upd H s.heap.objs.size (.tup [.int (i : Nat), x])) { s with heap := h'', toks := tk + 1 } := by
      refine I.turnedNew (ch := [e, it]) (fun b ob hb q => ?_) hf (Nat.le_refl _) new
      have h1 : b ≠ e := fun z => hb (by simp [z])
      have h2 : b ≠ it := fun z => hb (by simp [z])
      exact (sb.2 b h1).trans (hk b ob h1 h2 q)
    refine ⟨.ref s.heap.objs.size, _, I1, rfl, ⟨_, x, rfl, I.hok.fresh (Nat.le_refl _), rfl, hx⟩, ⟨⟨u, ?_⟩, hit'.1.at fun o q => (sb.2 it (Ne.symm hne)).trans q, hne⟩, fun b hb => ?_⟩
    · have e1 : ((i + 1 : Nat) : Int) = (i : Int) + 1 := by omega
      rw [e1]; exact he'
    · have hb' : b < s.heap.objs.size := by
        have e' : b = e ∨ b = it := by simpa using hb
        rcases e' with z | z
        · subst z; exact hel
        · subst z; exact hil
      rw [upd_ne (Nat.ne_of_lt hb')]
      exact (hf b hb).1
  done := by
    intro X hP hw hK hc i pins s σ H E I hf st hg
    subst hP hw hK
    obtain ⟨⟨old, he⟩, hit, hne⟩ := st
    obtain ⟨hq, hi⟩ := hg
    obtain ⟨its, rv, p, hz⟩ := I.tuple hq
    obtain ⟨f0, f1, f2, f3, f4, f5⟩ := hf it (by simp)
    have hl := rv.length
    have D := Draws.tuple (prog := X.prog) (w := X.w) (A := X.A.in1) (I.ok.hd hc) it a hai its.toArray
    have ei : i = its.toArray.size := by simp; omega
    subst ei
    exact wpAny_pyNext_enum_endD D he ⟨hit, p⟩ fun h' eb => ⟨rfl, I.turned (t' := s.toks) (fun b o hb q => eb b o hb q) f0 f1 f3 f4 f5⟩
  self := fun A i s Q E st h => by
    obtain ⟨⟨_, he⟩, _⟩ := st
    exact wpAny_pyIter_enum he h
def iEnumA (K : PySem.W.Frag) (ta : TA) : TI := fun σ H R => ta σ H fun vs H1 => ∃ a xs, vs = [.ref a] ∧ ((SqL K H1 a xs ∧ R (Ite K a) H1) ∨ (SqT K H1 a xs ∧ R (Iet K a xs) H1))
theorem pi_enumA {X : Cx} {e : Expr} {ta : TA} {p pos tpos : Pos} {elts : List Expr} {kk : Nat} (hg : Gl X "enumerate") (hm : X.mg "enumerate" = none) (ha : PA X [e] ta) (hs : starEach [e] X.env = [(false, eval e X.env)]) :
    PI X (.Tuple elts kk tpos) (.Call (.Name "enumerate" p) [e] [] pos) (iEnumA X.K ta) := by
  refine ⟨fun pins s σ H R I h => Call_ (ld_blt I hg hm boot_enumerate (PyProof.Rows.callWith_type1 (thn (ha.run pos pins s σ H _ I h) fun us s1 ⟨vs, H1, I1, r1, q1⟩ => ?_) hs rfl))⟩
  obtain ⟨a, xs, ex, q⟩ := q1
  subst ex
  cases r1 with
  | cons r rr =>
    cases rr
    cases r
    have fin : ∀ b, b ∈ [s1.heap.objs.size + 1, s1.heap.objs.size] → FpOk X pins H1 b := fun b hb => by
      have e' : b = s1.heap.objs.size + 1 ∨ b = s1.heap.objs.size := by simpa using hb
      have hle : s1.heap.objs.size ≤ b := by rcases e' with z | z <;> omega
      exact I1.fpOk hle (I1.hok.fresh hle)
    rcases q with ⟨hq, q⟩ | ⟨hq, q⟩
    · obtain ⟨its, rv, p', hz⟩ := I1.list hq
      refine call_enumerate_list p'.isList fun h' he hit hsz hk => wpAny_pyIter_enum he ?_
      have I2 : Inv X pins σ H1 { s1 with heap := h' } := I1.kept (t' := s1.toks) hk
      exact ⟨s1.heap.objs.size + 1, [s1.heap.objs.size + 1, s1.heap.objs.size], _, _, H1, rfl, I2, turn_enum a (s1.heap.objs.size + 1) s1.heap.objs.size, ⟨⟨.none, he⟩, hit, Nat.succ_ne_self _⟩, fin, q⟩
    · obtain ⟨its, rv, p', hz⟩ := I1.tuple hq
      have hal : a < s1.heap.objs.size := by obtain ⟨_, q, _⟩ := p'; exact Heap.lt_size q
      refine call_enumT p' fun h' he hit hk => wpAny_pyIter_enum he ?_
      have I2 : Inv X pins σ H1 { s1 with heap := h' } := I1.kept (t' := s1.toks) hk
      exact ⟨s1.heap.objs.size + 1, [s1.heap.objs.size + 1, s1.heap.objs.size], _, _, H1, rfl, I2, turn_enumT a (s1.heap.objs.size + 1) s1.heap.objs.size (Nat.ne_of_lt hal) (Nat.ne_of_gt (Nat.lt_succ_of_lt hal)), ⟨⟨.none, he⟩, hit, Nat.succ_ne_self _⟩, fin, q⟩
theorem walk_enumT {K : PySem.W.Frag} {a : Addr} {xs : List V} : Walk (Iet K a xs) xs.length (fun H => SqT K H a xs) (YPair (fun i => some (.int (i : Nat))) (fun i => xs[i]?)) := by
  refine ⟨fun i _ hi q => ⟨q, hi⟩, fun _ q => ⟨q, rfl⟩, fun i H v H' _ q y => ?_⟩
  obtain ⟨T, x, h1, h2, h3, h4⟩ := y
  exact ⟨T, .int (i : Nat), x, h1, h2, h3, rfl, h4⟩
end PB

/-! PBj -/
/-! PB, part J: what is walked; targets; behind a statement. -/
namespace PB
open PySem L2
variable [Tb]
section
variable {G : Glob} {X : Cx} {C : Callee} {fns : List Fn} {σ σ' σ2 : L2.St} {H H' H2 : Hp} {O O' O2 : Addr → Prop} {env env' env2 : Env} {W : WX}

/-! ### behind a statement -/
structure SPost (K : PySem.W.Frag) (T : Addr → Prop) (σ : L2.St) (H : Hp) (O : Addr → Prop) (env : Env) (σ' : L2.St) (H' : Hp) (O' : Addr → Prop) (env' : Env) : Prop where
  ext : Ext (fun a => Root σ env a ∨ T a) H H'
  er : EnvR K H' O' σ' env'
  new : ∀ a, O' a → O a ∨ H a = none
  hold : ∀ a, O a → ¬ Root σ env a → ¬ T a → O' a
  root : ∀ a, Root σ' env' a → Root σ env a ∨ T a ∨ H a = none
  tO : ∀ a, T a → O a ∨ H a = none
  refs : ∀ i : Nat, (∃ d, env[i]? = some (Slot.ref d)) → (∃ d, env'[i]? = some (Slot.ref d)) ∧ σ'[i]? = σ[i]?
  refs' : ∀ i : Nat, (∃ d, env'[i]? = some (Slot.ref d)) → ∃ d, env[i]? = some (Slot.ref d)
  len : σ'.length = σ.length
theorem Post.s {K : PySem.W.Frag} {T : Addr → Prop} (p : Post K σ T H O env H' O' env') : SPost K T σ H O env σ H' O' env' :=
  ⟨p.ext, p.er, p.new, p.hold, fun a z => .inl (p.root a z), p.tO, fun i z => ⟨(p.refs i).mp z, rfl⟩, fun i z => (p.refs i).mpr z, rfl⟩
theorem SPost.refl {K : PySem.W.Frag} (e : EnvR K H O σ env) : SPost K None0 σ H O env σ H O env := (Post.refl e).s
theorem SPost.trans {K : PySem.W.Frag} {T T' : Addr → Prop} (e : EnvR K H O σ env) (a : SPost K T σ H O env σ' H' O' env') (b : SPost K T' σ' H' O' env' σ2 H2 O2 env2) : SPost K (fun x => T x ∨ T' x) σ H O env σ2 H2 O2 env2 where
  ext := by
    refine ⟨fun x o q n t => ?_, fun x o q => ?_⟩
    · refine b.ext.keep x o (a.ext.keep x o q (fun z => n (z.elim .inl fun z => .inr (.inl z))) t) (fun z => n ?_) t
      rcases z with z | z
      · rcases a.root x z with z | z | z
        · exact .inl z
        · exact .inr (.inl z)
        · rw [q] at z; cases z
      · exact .inr (.inr z)
    · obtain ⟨o1, e1⟩ := a.ext.dom x o q
      exact b.ext.dom x o1 e1
  er := b.er
  new := fun x z => by
    rcases b.new x z with z | z
    · exact a.new x z
    · exact .inr (a.ext.free z)
  hold := fun x z n t => by
    refine b.hold x (a.hold x z n fun q => t (.inl q)) (fun q => ?_) fun q => t (.inr q)
    rcases a.root x q with q | q | q
    · exact n q
    · exact t (.inl q)
    · obtain ⟨o, h, _⟩ := e.dom x z
      rw [q] at h; cases h
  root := fun x z => by
    rcases b.root x z with z | z | z
    · rcases a.root x z with z | z | z
      · exact .inl z
      · exact .inr (.inl (.inl z))
      · exact .inr (.inr z)
    · exact .inr (.inl (.inr z))
    · exact .inr (.inr (a.ext.free z))
  tO := fun x z => by
    rcases z with z | z
    · exact a.tO x z
    · rcases b.tO x z with z | z
      · exact a.new x z
      · exact .inr (a.ext.free z)
  refs := fun i z => ⟨(b.refs i (a.refs i z).1).1, (b.refs i (a.refs i z).1).2.trans (a.refs i z).2⟩
  refs' := fun i z => a.refs' i (b.refs' i z)
  len := b.len.trans a.len
theorem SPost.clean {K : PySem.W.Frag} {T : Addr → Prop} (p : SPost K T σ H O env σ' H' O' env') (e : EnvR K H O σ env) (h : ∀ a, T a → H a = none) : SPost K None0 σ H O env σ' H' O' env' where
  ext := ⟨fun x o q n t => p.ext.keep x o q (fun z => z.elim (fun z => n (.inl z)) (fun z => by rw [h x z] at q; cases q)) t, p.ext.dom⟩
  er := p.er
  new := p.new
  hold := fun a z n _ => p.hold a z n fun t => by
    obtain ⟨o, q, _⟩ := e.dom a z
    rw [h a t] at q; cases q
  root := fun a z => by
    rcases p.root a z with z | z | z
    · exact .inl z
    · exact .inr (.inr (h a z))
    · exact .inr (.inr z)
  tO := fun _ z => z.elim
  refs := p.refs
  refs' := p.refs'
  len := p.len
theorem SPost.then0 {K : PySem.W.Frag} (e : EnvR K H O σ env) (a : SPost K None0 σ H O env σ' H' O' env') (b : SPost K None0 σ' H' O' env' σ2 H2 O2 env2) : SPost K None0 σ H O env σ2 H2 O2 env2 := by
  have p := a.trans e b
  exact p.clean e fun x z => (z.elim id id).elim
theorem SPost.fz {K : PySem.W.Frag} {T : Addr → Prop} (p : SPost K T σ H O env σ' H' O' env') (e : EnvR K H O σ env) : Fz H O H' O' :=
  ⟨fun a o h n t => p.ext.keep a o h (fun z => z.elim (fun z => n (e.rootO z)) (fun z => (p.tO a z).elim n (fun q => by rw [h] at q; cases q))) t, p.new, p.ext.dom⟩
theorem Fz.trans {H0 H1 H3 : Hp} {O0 O1 O3 : Addr → Prop} (a : Fz H0 O0 H1 O1) (b : Fz H1 O1 H3 O3) : Fz H0 O0 H3 O3 := by
  refine ⟨fun x o h n t => b.keep x o (a.keep x o h n t) (fun z => (a.new x z).elim n fun q => (by rw [h] at q; cases q)) t, fun x z => ?_, fun x o h => let ⟨_, e⟩ := a.dom x o h; b.dom x _ e⟩
  rcases b.new x z with z | z
  · exact a.new x z
  · by_cases q : O0 x
    · exact .inl q
    · cases e : H0 x with
      | none => exact .inr rfl
      | some o =>
        obtain ⟨o', e'⟩ := a.dom x o e
        rw [z] at e'; cases e'
/-- a name gets a frozen thing -/
theorem get_set {A : Type} {l : List A} {i j : Nat} {x y : A} (h : (l.set i x)[j]? = some y) : (j = i ∧ y = x) ∨ (j ≠ i ∧ l[j]? = some y) := by
  by_cases q : j = i
  · subst q
    by_cases hl : j < l.length
    · rw [List.getElem?_set_self hl] at h
      exact .inl ⟨rfl, (Option.some.inj h).symm⟩
    · rw [List.getElem?_eq_none (by simpa using hl)] at h; cases h
  · rw [List.getElem?_set_ne (Ne.symm q)] at h
    exact .inr ⟨q, h⟩
theorem setV_some {i : Nat} {s : Slot} (h : setV env i s = some env') : i < env.length ∧ env' = env.set i s ∧ ∀ d, env[i]? ≠ some (.ref d) := by
  unfold setV at h
  cases q : env[i]? with
  | none => rw [q] at h; cases h
  | some t =>
    rw [q] at h
    have hi : i < env.length := (List.getElem?_eq_some_iff.mp q).1
    cases t with
    | ref d => cases h
    | _ => exact ⟨hi, (Option.some.inj h).symm, fun d z => nomatch (Option.some.inj z)⟩
theorem SPost.setVal {K : PySem.W.Frag} {i : Nat} {d : D} {v : V} (e : EnvR K H O σ env) (hv : Rep K H O d v) (hs : setV env i (.val d) = some env') : SPost K None0 σ H O env (σ.set i (some v)) H O env' := by
  obtain ⟨hi, rfl, nr⟩ := setV_some hs
  have his : i < σ.length := by rw [← e.len]; exact hi
  have ow : ∀ (j : Nat) (d' : D), ((env.set i (.val d))[j]? = some (.own d') ∨ (env.set i (.val d))[j]? = some (.ref d')) → j ≠ i ∧ (env[j]? = some (.own d') ∨ env[j]? = some (.ref d')) := fun j d' h => by
    rcases h with h | h
    · rcases get_set h with ⟨_, z⟩ | ⟨z, q⟩
      · cases z
      · exact ⟨z, .inl q⟩
    · rcases get_set h with ⟨_, z⟩ | ⟨z, q⟩
      · cases z
      · exact ⟨z, .inr q⟩
  have rt : ∀ a, Root (σ.set i (some v)) (env.set i (.val d)) a → Root σ env a := fun a ⟨j, d', h, hs⟩ => by
    obtain ⟨z, q⟩ := ow j d' h
    rw [List.getElem?_set_ne (Ne.symm z)] at hs
    exact ⟨j, d', q, hs⟩
  refine ⟨Ext.refl, ⟨by rw [List.length_set, List.length_set]; exact e.len, fun j d' h => ?_, fun j d' h => ?_, fun j k a d1 d2 h1 h2 s1 s2 => ?_, e.dom⟩, fun a h => .inl h, fun a h _ _ => h, fun a z => .inl (rt a z), fun _ z => z.elim, fun j z => ?_, fun j z => ?_, List.length_set ..⟩
  · rcases get_set h with ⟨z, q⟩ | ⟨z, q⟩
    · cases q
      rw [z, List.getElem?_set_self his]
      exact ⟨v, rfl, hv⟩
    · rw [List.getElem?_set_ne (Ne.symm z)]
      exact e.val j d' q
  · obtain ⟨z, q⟩ := ow j d' h
    rw [List.getElem?_set_ne (Ne.symm z)]
    exact e.own j d' q
  · obtain ⟨z1, q1⟩ := ow j d1 h1
    obtain ⟨z2, q2⟩ := ow k d2 h2
    rw [List.getElem?_set_ne (Ne.symm z1)] at s1
    rw [List.getElem?_set_ne (Ne.symm z2)] at s2
    exact e.apart j k a d1 d2 q1 q2 s1 s2
  · obtain ⟨d', z⟩ := z
    have hj : j ≠ i := fun y => nr d' (by rw [← y]; exact z)
    rw [List.getElem?_set_ne (Ne.symm hj), List.getElem?_set_ne (Ne.symm hj)]
    exact ⟨⟨d', z⟩, rfl⟩
  · obtain ⟨d', z⟩ := z
    rcases get_set z with ⟨_, y⟩ | ⟨_, q⟩
    · cases y
    · exact ⟨d', q⟩
/-- a name gets a thing of its own -/
theorem SPost.setOwn {K : PySem.W.Frag} {i : Nat} {d : D} {p : Addr} (e : EnvR K H O σ env) (hO : O p) (hR : ¬ Root σ env p) (hS : Shp K H O d p) (hs : setV env i (.own d) = some env') : SPost K (fun a => a = p) σ H O env (σ.set i (some (.ref p))) H O env' := by
  obtain ⟨hi, rfl, nr⟩ := setV_some hs
  have his : i < σ.length := by rw [← e.len]; exact hi
  have ow : ∀ (j : Nat) (d' : D), ((env.set i (.own d))[j]? = some (.own d') ∨ (env.set i (.own d))[j]? = some (.ref d')) → (j = i ∧ d' = d) ∨ (j ≠ i ∧ (env[j]? = some (.own d') ∨ env[j]? = some (.ref d'))) := fun j d' h => by
    rcases h with h | h
    · rcases get_set h with ⟨y, z⟩ | ⟨z, q⟩
      · cases z; exact .inl ⟨y, rfl⟩
      · exact .inr ⟨z, .inl q⟩
    · rcases get_set h with ⟨_, z⟩ | ⟨z, q⟩
      · cases z
      · exact .inr ⟨z, .inr q⟩
  have at' : ∀ {j : Nat}, j ≠ i → (σ.set i (some (V.ref p)))[j]? = σ[j]? := fun z => List.getElem?_set_ne (Ne.symm z)
  have ati : (σ.set i (some (V.ref p)))[i]? = some (some (.ref p)) := List.getElem?_set_self his
  refine ⟨Ext.refl, ⟨by rw [List.length_set, List.length_set]; exact e.len, fun j d' h => ?_, fun j d' h => ?_, fun j k a d1 d2 h1 h2 s1 s2 => ?_, e.dom⟩, fun a h => .inl h, fun a h _ _ => h, fun a ⟨j, d', h, hs⟩ => ?_, fun a z => .inl (by rw [z]; exact hO), fun j z => ?_, fun j z => ?_, List.length_set ..⟩
  · rcases get_set h with ⟨z, q⟩ | ⟨z, q⟩
    · cases q
    · rw [at' z]
      exact e.val j d' q
  · rcases ow j d' h with ⟨z, q⟩ | ⟨z, q⟩
    · rw [z, q, ati]
      exact ⟨p, rfl, hO, hS⟩
    · rw [at' z]
      exact e.own j d' q
  · rcases ow j d1 h1 with ⟨z1, q1⟩ | ⟨z1, q1⟩ <;> rcases ow k d2 h2 with ⟨z2, q2⟩ | ⟨z2, q2⟩
    · rw [z1, z2]
    · rw [at' z2] at s2
      rw [z1, ati] at s1
      cases s1
      exact (hR ⟨k, d2, q2, s2⟩).elim
    · rw [at' z1] at s1
      rw [z2, ati] at s2
      cases s2
      exact (hR ⟨j, d1, q1, s1⟩).elim
    · rw [at' z1] at s1
      rw [at' z2] at s2
      exact e.apart j k a d1 d2 q1 q2 s1 s2
  · rcases ow j d' h with ⟨z, q⟩ | ⟨z, q⟩
    · rw [z, ati] at hs
      cases hs
      exact .inr (.inl rfl)
    · rw [at' z] at hs
      exact .inl ⟨j, d', q, hs⟩
  · obtain ⟨d', z⟩ := z
    have hj : j ≠ i := fun y => nr d' (by rw [← y]; exact z)
    rw [List.getElem?_set_ne (Ne.symm hj), at' hj]
    exact ⟨⟨d', z⟩, rfl⟩
  · obtain ⟨d', z⟩ := z
    rcases get_set z with ⟨_, y⟩ | ⟨_, q⟩
    · cases y
    · exact ⟨d', q⟩
/-- the thing of a slot that owns it changes -/
theorem SPost.put {K : PySem.W.Frag} {i : Nat} {d d0 : D} {p : Addr} {o : HO} (e : EnvR K H O σ env) (h0 : env[i]? = some (.own d0) ∨ env[i]? = some (.ref d0)) (hp : σ[i]? = some (some (.ref p))) (hS : ∀ H' O', Fz H O H' O' → H' p = some o → Shp K H' O' d p) (hs : putOwn env i d = some env') :
    SPost K None0 σ H O env σ (upd H p o) O env' := by
  obtain ⟨p', hp', hO, hsh⟩ := e.own i d0 h0
  rw [hp] at hp'
  cases hp'
  obtain ⟨op, hop⟩ := hsh.there
  have hk : ∀ a u, H a = some u → a ≠ p → upd H p o a = some u := fun a u h n => by rw [upd_ne n]; exact h
  have f : Fz H O (upd H p o) O := ⟨fun a u h n _ => hk a u h fun z => n (by rw [z]; exact hO), fun a h => .inl h, fun a u h => (by
    by_cases z : a = p
    · exact ⟨o, by rw [z, upd_same]⟩
    · exact ⟨u, hk a u h z⟩)⟩
  have hi : i < env.length := by rcases h0 with h0 | h0 <;> exact (List.getElem?_eq_some_iff.mp h0).1
  have new : Shp K (upd H p o) O d p := hS _ _ f upd_same
  have oth : ∀ (j : Nat) (d' : D), j ≠ i → (env[j]? = some (.own d') ∨ env[j]? = some (.ref d')) → ∃ a, σ[j]? = some (some (.ref a)) ∧ O a ∧ Shp K (upd H p o) O d' a := fun j d' z q => by
    obtain ⟨a, h1, h2, h3⟩ := e.own j d' q
    refine ⟨a, h1, h2, h3.step f fun u hu _ => hk a u hu fun y => ?_⟩
    exact z (e.apart j i p d' d0 q h0 (by rw [← y]; exact h1) hp)
  -- what stands at a slot behind it
  have key : ∀ (s : Slot), (s = .own d ∨ s = .ref d) → (∀ d', env[i]? = some (.ref d') ↔ s = .ref d ∧ d' = d0) → env' = env.set i s → SPost K None0 σ H O env σ (upd H p o) O env' := fun s hsd hrf he => by
    subst he
    have ow : ∀ (j : Nat) (d' : D), ((env.set i s)[j]? = some (.own d') ∨ (env.set i s)[j]? = some (.ref d')) → (j = i ∧ d' = d) ∨ (j ≠ i ∧ (env[j]? = some (.own d') ∨ env[j]? = some (.ref d'))) := fun j d' h => by
      rcases h with h | h
      · rcases get_set h with ⟨y, z⟩ | ⟨z, q⟩
        · rcases hsd with q | q
          · rw [q] at z; cases z; exact .inl ⟨y, rfl⟩
          · rw [q] at z; cases z
        · exact .inr ⟨z, .inl q⟩
      · rcases get_set h with ⟨y, z⟩ | ⟨z, q⟩
        · rcases hsd with q | q
          · rw [q] at z; cases z
          · rw [q] at z; cases z; exact .inl ⟨y, rfl⟩
        · exact .inr ⟨z, .inr q⟩
    refine ⟨⟨fun a u h n _ => hk a u h fun z => n (.inl ⟨i, d0, h0, by rw [z]; exact hp⟩), fun a u h => ?_⟩, ⟨by rw [List.length_set]; exact e.len, fun j d' h => ?_, fun j d' h => ?_, fun j k a d1 d2 h1 h2 s1 s2 => ?_, ⟨fun a h => ?_, tabs_upd (e.dom p hO) e.dom.tb, sm_upd (e.dom p hO) e.dom.sm⟩⟩, fun a h => .inl h, fun a h _ _ => h, fun a ⟨j, d', h, hs⟩ => ?_, fun _ z => z.elim, fun j z => ?_, fun j z => ?_, rfl⟩
    · by_cases z : a = p
      · exact ⟨o, by rw [z, upd_same]⟩
      · exact ⟨u, hk a u h z⟩
    · rcases get_set h with ⟨z, q⟩ | ⟨z, q⟩
      · rcases hsd with y | y <;> (rw [y] at q; cases q)
      · obtain ⟨v, h1, h2⟩ := e.val j d' q
        exact ⟨v, h1, Rep.step f d' v h2⟩
    · rcases ow j d' h with ⟨z, q⟩ | ⟨z, q⟩
      · rw [z, q]
        exact ⟨p, hp, hO, new⟩
      · exact oth j d' z q
    · have h1' : ∃ d, env[j]? = some (.own d) ∨ env[j]? = some (.ref d) := by
        rcases ow j d1 h1 with ⟨z, _⟩ | ⟨z, q⟩
        · exact ⟨d0, by rw [z]; exact h0⟩
        · exact ⟨d1, q⟩
      have h2' : ∃ d, env[k]? = some (.own d) ∨ env[k]? = some (.ref d) := by
        rcases ow k d2 h2 with ⟨z, _⟩ | ⟨z, q⟩
        · exact ⟨d0, by rw [z]; exact h0⟩
        · exact ⟨d2, q⟩
      obtain ⟨e1, h1'⟩ := h1'
      obtain ⟨e2, h2'⟩ := h2'
      exact e.apart j k a e1 e2 h1' h2' s1 s2
    · by_cases z : a = p
      · rw [z]; exact new.has
      · obtain ⟨u, h, hn⟩ := e.dom a h
        exact ⟨u, hk a u h z, hn⟩
    · rcases ow j d' h with ⟨z, q⟩ | ⟨z, q⟩
      · exact .inl ⟨i, d0, h0, by rw [← z]; exact hs⟩
      · exact .inl ⟨j, d', q, hs⟩
    · obtain ⟨d', z⟩ := z
      refine ⟨?_, rfl⟩
      by_cases y : j = i
      · subst y
        obtain ⟨q, _⟩ := (hrf d').mp z
        rw [List.getElem?_set_self hi, q]
        exact ⟨d, rfl⟩
      · rw [List.getElem?_set_ne (Ne.symm y)]
        exact ⟨d', z⟩
    · obtain ⟨d', z⟩ := z
      rcases get_set z with ⟨y, q⟩ | ⟨_, q⟩
      · rw [y]
        rcases hsd with r | r
        · rw [r] at q; cases q
        · exact ⟨d0, (hrf d0).mpr ⟨r, rfl⟩⟩
      · exact ⟨d', q⟩
  rcases putOwn_some hs with ⟨d1, e1, e2⟩ | ⟨d1, e1, e2⟩
  · refine key _ (.inl rfl) (fun d' => ⟨fun z => ?_, fun z => nomatch z.1⟩) e2
    rw [e1] at z; cases z
  · have hd : d1 = d0 := by
      rcases h0 with h0 | h0
      · rw [h0] at e1; cases e1
      · rw [h0] at e1; cases e1; rfl
    subst hd
    refine key _ (.inr rfl) (fun d' => ⟨fun z => ?_, fun z => ?_⟩) e2
    · rw [e1] at z; cases z; exact ⟨rfl, rfl⟩
    · rw [z.2]; exact e1
end
end PB

/-! PBk -/
/-! PB, part K: what is walked. -/
namespace PB
open PySem L2
variable [Tb]
section
variable {G : Glob} {X : Cx} {C : Callee} {fns : List Fn} {σ σ' σ2 : L2.St} {H H' H2 : Hp} {O O' O2 : Addr → Prop} {env env' env2 : Env} {W : WX}

/-- while what is frozen stays, J gives the things ds -/
structure Src (K : PySem.W.Frag) (H : Hp) (O : Addr → Prop) (J : L2.It) (ds : List D) : Prop where
  goes : ∀ i H2 O2, Fz H O H2 O2 → i < ds.length → J.go i H2
  stops : ∀ H2 O2, Fz H O H2 O2 → J.stop ds.length H2
  yields : ∀ i d H2 O2 x H3, Fz H O H2 O2 → (∀ a, O2 a → Has H2 a) → ds[i]? = some d → J.yld i H2 x H3 → (∀ a o, H2 a = some o → H3 a = some o) ∧ Rep K H3 O2 d x
def TMi (X : Cx) (tg e : Expr) (σ : L2.St) (H : Hp) (R : L2.It → Hp → Prop) : Prop := ∀ (pins : List (Addr × Obj)) (s : Shared), Inv X pins σ H s →
  wpAny (model X.prog X.w) X.A (eval e X.env) (fun v s1 => wpAny (model X.prog X.w) X.A (pyIter v) (PIE X pins σ tg R) X.xe s1) X.xe s
theorem piM (tg e : Expr) : PI X tg e (TMi X tg e) := ⟨fun pins s _ _ _ I h => h pins s I⟩
theorem TMi.of {tg e : Expr} {t : TI} {R : L2.It → Hp → Prop} (h : PI X tg e t) (q : t σ H R) : TMi X tg e σ H R := fun pins s I => h.run pins s σ H R I q
def SI (G : Glob) (X : Cx) (C : Callee) (fns : List Fn) (tg e : Expr) (it : It) : Prop := ∀ (σ : L2.St) (H : Hp) (O : Addr → Prop) (env : Env) (R : L2.It → Hp → Prop) (W : WX), Takes X W → EnvR X.K H O σ env →
  WOut G X W σ H O env (evIt C fns it env) (fun ds env' => ∀ J H' O', Post X.K σ None0 H O env H' O' env' → Src X.K H' O' J ds → R J H') → TMi X tg e σ H R

/-! ### lists, tuples -/
theorem src_list {K : PySem.W.Frag} {l : List D} {a : Addr} (h : Rep K H O (.lst l) (.ref a)) : Src K H O (Itl K a) l := by
  have st : ∀ H2 O2, Fz H O H2 O2 → ∃ xs, SqL K H2 a xs ∧ Reps K H2 O2 l xs := fun H2 O2 f => by
    have h2 := Rep.step f _ _ h
    simp only [Rep] at h2
    obtain ⟨b, xs, e, _, s, r⟩ := h2
    cases e
    exact ⟨xs, s, r⟩
  refine ⟨fun i H2 O2 f hi => ?_, fun H2 O2 f => ?_, fun i d H2 O2 x H3 f dm e y => ?_⟩
  · obtain ⟨xs, s, r⟩ := st H2 O2 f
    exact walk_list.goes i H2 (by rw [← r.length]; exact hi) s
  · obtain ⟨xs, s, r⟩ := st H2 O2 f
    rw [r.length]
    exact walk_list.stops H2 s
  · obtain ⟨xs, s, r⟩ := st H2 O2 f
    obtain ⟨e1, e2⟩ := y
    subst e1
    obtain ⟨x', h1, h2⟩ := r.get e
    rw [e2 xs s] at h1
    cases h1
    exact ⟨fun _ _ q => q, h2⟩
theorem tup_at {K : PySem.W.Frag} {l : List D} {a : Addr} (h : Rep K H O (.tup l) (.ref a)) : ∃ xs, ∀ H2 O2, Fz H O H2 O2 → SqT K H2 a xs ∧ Reps K H2 O2 l xs := by
  simp only [Rep] at h
  obtain ⟨b, xs, e, n, s, r⟩ := h
  cases e
  exact ⟨xs, fun H2 O2 f => ⟨.inl (.inl (f.keep _ _ s n fun _ z => nomatch z)), r.step f⟩⟩
theorem src_tup {K : PySem.W.Frag} {l : List D} {a : Addr} (h : Rep K H O (.tup l) (.ref a)) : Src K H O (Itt K a) l := by
  obtain ⟨xs, st⟩ := tup_at h
  refine ⟨fun i H2 O2 f hi => ?_, fun H2 O2 f => ?_, fun i d H2 O2 x H3 f dm e y => ?_⟩
  · obtain ⟨s, r⟩ := st H2 O2 f
    exact walk_tup.goes i H2 (by rw [← r.length]; exact hi) s
  · obtain ⟨s, r⟩ := st H2 O2 f
    rw [r.length]
    exact walk_tup.stops H2 s
  · obtain ⟨s, r⟩ := st H2 O2 f
    obtain ⟨e1, e2⟩ := y
    subst e1
    obtain ⟨x', h1, h2⟩ := r.get e
    rw [e2 xs s] at h1
    cases h1
    exact ⟨fun _ _ q => q, h2⟩
theorem rangeD_length : ∀ (n : Nat) (lo : Int), (rangeD lo n).length = n
  | 0, _ => rfl
  | n + 1, lo => by show (rangeD (lo + 1) n).length + 1 = n + 1; rw [rangeD_length n]
theorem rangeD_get : ∀ (n : Nat) (lo : Int) (i : Nat) (d : D), (rangeD lo n)[i]? = some d → d = .int (lo + (i : Nat))
  | 0, _, _, _, h => nomatch h
  | n + 1, lo, 0, d, h => by
    have h : some (D.int lo) = some d := h
    cases h
    simp
  | n + 1, lo, i + 1, d, h => by
    have h : (rangeD (lo + 1) n)[i]? = some d := h
    rw [rangeD_get n (lo + 1) i d h]
    congr 1
    omega
theorem src_range {K : PySem.W.Frag} {lo : Int} {n : Nat} : Src K H O (Itr lo n) (rangeD lo n) := by
  refine ⟨fun i H2 O2 f hi => ?_, fun H2 O2 f => ?_, fun i d H2 O2 x H3 f dm e y => ?_⟩
  · rw [rangeD_length] at hi
    exact walk_range.goes i H2 hi trivial
  · rw [rangeD_length]
    exact walk_range.stops H2 trivial
  · obtain ⟨e1, e2⟩ := y
    subst e1
    rw [rangeD_get n lo i d e]
    exact ⟨fun _ _ q => q, e2⟩
theorem pair_new {K : PySem.W.Frag} {T : Addr} {x y : V} {dx dy : D} (dm : ∀ a, O a → Has H a) (hT : H T = none) (hx : Rep K H O dx x) (hy : Rep K H O dy y) :
    (∀ a o, H a = some o → upd H T (.tup [x, y]) a = some o) ∧ Rep K (upd H T (.tup [x, y])) O (.tup [dx, dy]) (.ref T) := by
  have hk := grow_new (o := .tup [x, y]) hT
  have f := fz_grow (O := O) hk
  refine ⟨hk, ⟨T, [x, y], rfl, fun z => ?_, upd_same, .cons (Rep.step f _ _ hx) (.cons (Rep.step f _ _ hy) .nil)⟩⟩
  obtain ⟨o, q, _⟩ := dm T z
  rw [hT] at q; cases q
theorem enumD_length : ∀ (l : List D) (k : Int), (enumD k l).length = l.length
  | [], _ => rfl
  | _ :: l, k => by show (enumD (k + 1) l).length + 1 = l.length + 1; rw [enumD_length l]
theorem enumD_get : ∀ (l : List D) (k : Int) (i : Nat) (d : D), (enumD k l)[i]? = some d → ∃ d', l[i]? = some d' ∧ d = .tup [.int (k + (i : Nat)), d']
  | [], _, _, _, h => nomatch h
  | a :: l, k, 0, d, h => by
    have h : some (D.tup [.int k, a]) = some d := h
    cases h
    exact ⟨a, rfl, by simp⟩
  | a :: l, k, i + 1, d, h => by
    have h : (enumD (k + 1) l)[i]? = some d := h
    obtain ⟨d', h1, h2⟩ := enumD_get l (k + 1) i d h
    refine ⟨d', by simpa using h1, ?_⟩
    rw [h2]
    have e : k + 1 + ((i : Nat) : Int) = k + ((i + 1 : Nat) : Int) := by omega
    rw [e]
theorem src_enumL {K : PySem.W.Frag} {l : List D} {a : Addr} (h : Rep K H O (.lst l) (.ref a)) : Src K H O (Ite K a) (enumD 0 l) := by
  have st : ∀ H2 O2, Fz H O H2 O2 → ∃ xs, SqL K H2 a xs ∧ Reps K H2 O2 l xs := fun H2 O2 f => by
    have h2 := Rep.step f _ _ h
    simp only [Rep] at h2
    obtain ⟨b, xs, e, _, s, r⟩ := h2
    cases e
    exact ⟨xs, s, r⟩
  refine ⟨fun i H2 O2 f hi => ?_, fun H2 O2 f => ?_, fun i d H2 O2 x H3 f dm e y => ?_⟩
  · obtain ⟨xs, s, r⟩ := st H2 O2 f
    rw [enumD_length] at hi
    exact walk_enum.goes i H2 (by rw [← r.length]; exact hi) s
  · obtain ⟨xs, s, r⟩ := st H2 O2 f
    rw [enumD_length, r.length]
    exact walk_enum.stops H2 s
  · obtain ⟨xs, s, r⟩ := st H2 O2 f
    obtain ⟨T, x', e1, hT, e2, e3⟩ := y
    obtain ⟨d', h1, h2⟩ := enumD_get l 0 i d e
    obtain ⟨x2, h3, h4⟩ := r.get h1
    rw [e3 xs s] at h3
    cases h3
    subst e1 e2 h2
    exact pair_new dm hT (by simp [Rep]) h4
theorem src_enumT {K : PySem.W.Frag} {l : List D} {a : Addr} (h : Rep K H O (.tup l) (.ref a)) : ∃ xs, SqT K H a xs ∧ Src K H O (Iet K a xs) (enumD 0 l) := by
  obtain ⟨xs, st⟩ := tup_at h
  refine ⟨xs, (st H O Fz.refl).1, fun i H2 O2 f hi => ?_, fun H2 O2 f => ?_, fun i d H2 O2 x H3 f dm e y => ?_⟩
  · obtain ⟨s, r⟩ := st H2 O2 f
    rw [enumD_length] at hi
    exact walk_enumT.goes i H2 (by rw [← r.length]; exact hi) s
  · obtain ⟨s, r⟩ := st H2 O2 f
    rw [enumD_length, r.length]
    exact walk_enumT.stops H2 s
  · obtain ⟨s, r⟩ := st H2 O2 f
    obtain ⟨T, x', e1, hT, e2, e3⟩ := y
    obtain ⟨d', h1, h2⟩ := enumD_get l 0 i d e
    obtain ⟨x2, h3, h4⟩ := r.get h1
    rw [e3] at h3
    cases h3
    subst e1 e2 h2
    exact pair_new dm hT (by simp [Rep]) h4
theorem zipD_length : ∀ (l m : List D), (zipD l m).length = min l.length m.length
  | [], m => by simp [zipD]
  | _ :: _, [] => rfl
  | a :: l, b :: m => by
    show (zipD l m).length + 1 = min (l.length + 1) (m.length + 1)
    rw [zipD_length l m]
    omega
theorem zipD_get : ∀ (l m : List D) (i : Nat) (d : D), (zipD l m)[i]? = some d → ∃ x y, l[i]? = some x ∧ m[i]? = some y ∧ d = .tup [x, y]
  | [], m, _, _, h => by simp [zipD] at h
  | _ :: _, [], _, _, h => nomatch h
  | a :: l, b :: m, 0, d, h => by
    have h : some (D.tup [a, b]) = some d := h
    cases h
    exact ⟨a, b, rfl, rfl, rfl⟩
  | a :: l, b :: m, i + 1, d, h => by
    have h : (zipD l m)[i]? = some d := h
    obtain ⟨x, y, h1, h2, h3⟩ := zipD_get l m i d h
    exact ⟨x, y, by simpa using h1, by simpa using h2, h3⟩
theorem src_zipL {K : PySem.W.Frag} {l m : List D} {a b : Addr} (h : Rep K H O (.lst l) (.ref a)) (h' : Rep K H O (.lst m) (.ref b)) : Src K H O (Itz K a b) (zipD l m) := by
  have st : ∀ {l : List D} {a : Addr}, Rep K H O (.lst l) (.ref a) → ∀ H2 O2, Fz H O H2 O2 → ∃ xs, SqL K H2 a xs ∧ Reps K H2 O2 l xs := fun {l a} h H2 O2 f => by
    have h2 := Rep.step f _ _ h
    simp only [Rep] at h2
    obtain ⟨b, xs, e, _, s, r⟩ := h2
    cases e
    exact ⟨xs, s, r⟩
  refine ⟨fun i H2 O2 f hi => ?_, fun H2 O2 f => ?_, fun i d H2 O2 x H3 f dm e y => ?_⟩
  · obtain ⟨xs, s, r⟩ := st h H2 O2 f
    obtain ⟨ys, s', r'⟩ := st h' H2 O2 f
    rw [zipD_length] at hi
    exact (walk_zip rfl).goes i H2 (by rw [← r.length, ← r'.length]; exact hi) ⟨s, s'⟩
  · obtain ⟨xs, s, r⟩ := st h H2 O2 f
    obtain ⟨ys, s', r'⟩ := st h' H2 O2 f
    rw [zipD_length, r.length, r'.length]
    exact (walk_zip rfl).stops H2 ⟨s, s'⟩
  · obtain ⟨xs, s, r⟩ := st h H2 O2 f
    obtain ⟨ys, s', r'⟩ := st h' H2 O2 f
    obtain ⟨T, vx, vy, e1, hT, e2, e3, e4⟩ := y
    obtain ⟨dx, dy, h1, h2, h3⟩ := zipD_get l m i d e
    obtain ⟨x2, h4, h5⟩ := r.get h1
    obtain ⟨y2, h6, h7⟩ := r'.get h2
    rw [e3 xs s] at h4
    rw [e4 ys s'] at h6
    cases h4
    cases h6
    subst e1 e2 h3
    exact pair_new dm hT h5 h7
theorem src_zipT {K : PySem.W.Frag} {l m : List D} {a b : Addr} (h : Rep K H O (.tup l) (.ref a)) (h' : Rep K H O (.tup m) (.ref b)) : ∃ xs ys, SqT K H a xs ∧ SqT K H b ys ∧ Src K H O (RZ.ItzT K a b) (zipD l m) := by
  obtain ⟨xs, st⟩ := tup_at h
  obtain ⟨ys, st'⟩ := tup_at h'
  refine ⟨xs, ys, (st H O Fz.refl).1, (st' H O Fz.refl).1, fun i H2 O2 f hi => ?_, fun H2 O2 f => ?_, fun i d H2 O2 x H3 f dm e y => ?_⟩
  · obtain ⟨s, r⟩ := st H2 O2 f
    obtain ⟨s', r'⟩ := st' H2 O2 f
    rw [zipD_length, r.length, r'.length] at hi
    have h1 : i < xs.length := by omega
    have h2 : i < ys.length := by omega
    exact ⟨xs, ys, xs[i], ys[i], s, s', by simp [h1], by simp [h2]⟩
  · obtain ⟨s, r⟩ := st H2 O2 f
    obtain ⟨s', r'⟩ := st' H2 O2 f
    rw [zipD_length, r.length, r'.length]
    exact ⟨xs, ys, s, s', by omega⟩
  · obtain ⟨s, r⟩ := st H2 O2 f
    obtain ⟨s', r'⟩ := st' H2 O2 f
    obtain ⟨T, vx, vy, e1, hT, e2, e3, e4⟩ := y
    obtain ⟨dx, dy, h1, h2, h3⟩ := zipD_get l m i d e
    obtain ⟨x2, h4, h5⟩ := r.get h1
    obtain ⟨y2, h6, h7⟩ := r'.get h2
    rw [e3 xs s] at h4
    rw [e4 ys s'] at h6
    cases h4
    cases h6
    subst e1 e2 h3
    exact pair_new dm hT h5 h7

/-! ### the walks of the program -/
theorem pi_any {tg l : Expr} {tl : TE} (hl : PE X l tl) : PI X tg l (fun σ H R => tl σ H fun x H1 => ∃ a xs, x = .ref a ∧ ((SqL X.K H1 a xs ∧ R (Itl X.K a) H1) ∨ (SqT X.K H1 a xs ∧ R (Itt X.K a) H1))) := by
  refine ⟨fun pins s σ H R I h => thn (hl.run pins s σ H _ I h) fun v s1 ⟨x, H1, I1, r1, a, xs, e, q⟩ => ?_⟩
  subst e
  cases r1
  rcases q with ⟨hq, q⟩ | ⟨hq, q⟩
  · obtain ⟨its, rv, p, hz⟩ := I1.list hq
    exact wpAny_pyIter_list p.isList (pi_one (tk := s1.toks) I1 _ (turn_list a _) ⟨_, Heap.get?_push_size _ rfl, rfl, rfl⟩ q)
  · obtain ⟨its, rv, p, hz⟩ := I1.tuple hq
    exact wpAny_pyIter_tuple (show s1.heap.IsTuple a its.toArray from p) (pi_one (tk := s1.toks) I1 _ (turn_tuple a _) ⟨_, Heap.get?_push_size _ rfl, rfl, rfl⟩ q)
/-- a result is taken up -/
theorem take_post (er : EnvR X.K H O σ env) {r : Vd} {v : V} {H1 : Hp} {O1 : Addr → Prop} {env1 env2 : Env} {d : D} (p : RPost X.K σ H O env H1 O1 env1 r v) (ht : takeD r env1 = some (d, env2)) : ∃ O2, Post X.K σ None0 H O env H1 O2 env2 ∧ Rep X.K H1 O2 d v := by
  obtain ⟨O2, p2, hr⟩ := Post.take p.p.er p.vr ht
  refine ⟨O2, ?_, hr⟩
  have q := p.p.trans p2
  exact q.clean er fun a z => z.elim (fun z => z.elim) fun z => p.t a z
theorem seqV_out {v : Vd} {P : List D → Env → Prop} {E : D → Env → Prop} (h : Out (seqV v env) P E) : ∃ d l env', takeD v env = some (d, env') ∧ seqD d = some l ∧ P l env' := by
  unfold seqV at h
  cases q : takeD v env with
  | none => rw [q] at h; exact (show False from h).elim
  | some p =>
    obtain ⟨d, env1⟩ := p
    rw [q] at h
    obtain ⟨l, e, hp⟩ := Out.opt h
    exact ⟨d, l, env1, rfl, e, hp⟩
theorem seqD_cases {d : D} {l : List D} (h : seqD d = some l) : d = .lst l ∨ d = .tup l := by
  cases d <;> first | (cases h; exact .inl rfl) | (cases h; exact .inr rfl) | cases h
theorem rep_ref {K : PySem.W.Frag} {l : List D} {v : V} (h : Rep K H O (.lst l) v ∨ Rep K H O (.tup l) v) : ∃ a, v = .ref a := by
  rcases h with h | h
  · obtain ⟨a, _, e, _⟩ := h
    exact ⟨a, e⟩
  · obtain ⟨a, _, e, _⟩ := h
    exact ⟨a, e⟩
theorem si_seq {tg e : Expr} {ie : E} (he : SE G X C fns e ie) : SI G X C fns tg e (.seq ie) := by
  intro σ H O env R W tk er h
  refine TMi.of (pi_any (peM e)) ?_
  simp only [evIt] at h
  refine he σ H O env _ W tk er (Out.mono (Out.bind h) (fun x env1 _ h1 v H1 O1 p1 => ?_) fun _ _ k => k)
  obtain ⟨d, l, env2, q1, q2, hp⟩ := seqV_out h1
  obtain ⟨O2, p, hr⟩ := take_post er p1 q1
  rcases seqD_cases q2 with z | z
  · subst z
    obtain ⟨a, rfl⟩ := rep_ref (.inl hr)
    have hr' := hr
    simp only [Rep] at hr'
    obtain ⟨b, xs, e, _, s, _⟩ := hr'
    cases e
    exact ⟨a, xs, rfl, .inl ⟨s, hp _ _ _ p (src_list hr)⟩⟩
  · subst z
    obtain ⟨a, rfl⟩ := rep_ref (.inr hr)
    obtain ⟨xs, st⟩ := tup_at hr
    exact ⟨a, xs, rfl, .inr ⟨(st _ _ Fz.refl).1, hp _ _ _ p (src_tup hr)⟩⟩
theorem intV_out {v : Vd} {P : Int → Env → Prop} {E : D → Env → Prop} (h : Out (intV v env) P E) : ∃ i, v = .fz (.int i) ∧ P i env := by
  cases v with
  | fz d => cases d <;> first | exact ⟨_, rfl, h⟩ | exact (show False from h).elim
  | fr d => exact (show False from h).elim
  | bw d => exact (show False from h).elim
theorem rngV_out {lo hi : Int} {P : List D → Env → Prop} {E : D → Env → Prop} (h : Out (rngV lo hi env) P E) : (-(2 ^ 62) ≤ lo ∧ lo < 2 ^ 62 ∧ -(2 ^ 62) ≤ hi ∧ hi < 2 ^ 62) ∧ P (rangeD lo (hi - lo).toNat) env := by
  unfold rngV at h
  split at h
  · rename_i c
    unfold rngOk at c
    simp only [Bool.and_eq_true, decide_eq_true_eq] at c
    exact ⟨⟨c.1.1.1, c.1.1.2, c.1.2.1, c.1.2.2⟩, h⟩
  · exact (show False from h).elim
theorem si_rng1 {tg a : Expr} {ia : E} {p pos : Pos} (hg : Gl X "range") (hm : X.mg "range" = none) (hs : starEach [a] X.env = [(false, eval a X.env)]) (ha : SE G X C fns a ia) : SI G X C fns tg (.Call (.Name "range" p) [a] [] pos) (.rng1 ia) := by
  intro σ H O env R W tk er h
  refine TMi.of (pi_range1 hg hm (paM [a]) hs) ?_
  have sa : SA G X C fns [a] [ia] := sa_cons (by rw [hs]; rfl) ha sa_nil
  simp only [evIt] at h
  refine sa σ H O env _ W tk er ?_
  simp only [evEs]
  have h := Out.bind h
  cases q : evE C fns ia env with
  | err => rw [q] at h; exact (show False from h).elim
  | exc x e1 => rw [q] at h; exact h
  | ok x e1 =>
    rw [q] at h
    have h : WOut G X W σ H O env ((intV x e1).bind fun h env => rngV 0 h env) (fun ds env' => ∀ J H' O', Post X.K σ None0 H O env H' O' env' → Src X.K H' O' J ds → R J H') := h
    obtain ⟨i, rfl, h2⟩ := intV_out (Out.bind h)
    obtain ⟨b, h3⟩ := rngV_out h2
    show ∀ vs H' O', RPosts X.K σ H O env H' O' e1 [.fz (.int i)] vs → _
    intro vs H1 O1 p1
    have vr := p1.vr
    match vs, vr with
    | [v], vr =>
      have ev : v = .int i := vr.1
      subst ev
      refine ⟨i, rfl, b.2.2.1, b.2.2.2, h3 _ H1 O1 p1.p ?_⟩
      have : (i - 0).toNat = i.toNat := by simp
      rw [this]
      exact src_range
theorem si_rng2 {tg a b : Expr} {ia ib : E} {p pos : Pos} (hg : Gl X "range") (hm : X.mg "range" = none) (hs : starEach [a, b] X.env = [(false, eval a X.env), (false, eval b X.env)]) (hs2 : starEach [b] X.env = [(false, eval b X.env)]) (ha : SE G X C fns a ia) (hb : SE G X C fns b ib) :
    SI G X C fns tg (.Call (.Name "range" p) [a, b] [] pos) (.rng2 ia ib) := by
  intro σ H O env R W tk er h
  refine TMi.of (pi_range2 hg hm (paM [a, b]) hs hs2) ?_
  have sa : SA G X C fns [a, b] [ia, ib] := sa_cons (by rw [hs, hs2]) ha (sa_cons (by rw [hs2]; rfl) hb sa_nil)
  simp only [evIt] at h
  refine sa σ H O env _ W tk er ?_
  simp only [evEs]
  cases q : evE C fns ia env with
  | err => rw [q] at h; exact (show False from h).elim
  | exc x e1 => rw [q] at h; exact h
  | ok x e1 =>
    rw [q] at h
    simp only [Res.bind] at h ⊢
    cases q2 : evE C fns ib e1 with
    | err => rw [q2] at h; exact (show False from h).elim
    | exc x e1 => rw [q2] at h; exact h
    | ok y e2 =>
      rw [q2] at h
      have h : WOut G X W σ H O env ((intV x e2).bind fun l env => (intV y env).bind fun h env => rngV l h env) (fun ds env' => ∀ J H' O', Post X.K σ None0 H O env H' O' env' → Src X.K H' O' J ds → R J H') := h
      obtain ⟨i, rfl, h2⟩ := intV_out (Out.bind h)
      obtain ⟨j, rfl, h2⟩ := intV_out (Out.bind h2)
      obtain ⟨b, h3⟩ := rngV_out h2
      show ∀ vs H' O', RPosts X.K σ H O env H' O' e2 [.fz (.int i), .fz (.int j)] vs → _
      intro vs H1 O1 p1
      have vr := p1.vr
      match vs, vr with
      | [v, u], vr =>
        have ev : v = .int i := vr.1
        have eu : u = .int j := vr.2.1
        subst ev eu
        exact ⟨i, j, rfl, b, h3 _ H1 O1 p1.p src_range⟩
theorem si_enm {e : Expr} {elts : List Expr} {kk : Nat} {tpos : Pos} {ie : E} {p pos : Pos} (hg : Gl X "enumerate") (hm : X.mg "enumerate" = none) (hs : starEach [e] X.env = [(false, eval e X.env)]) (he : SE G X C fns e ie) :
    SI G X C fns (.Tuple elts kk tpos) (.Call (.Name "enumerate" p) [e] [] pos) (.enm ie) := by
  intro σ H O env R W tk er h
  refine TMi.of (pi_enumA hg hm (paM [e]) hs) ?_
  have sa : SA G X C fns [e] [ie] := sa_cons (by rw [hs]; rfl) he sa_nil
  simp only [evIt] at h
  refine sa σ H O env _ W tk er ?_
  simp only [evEs]
  cases q : evE C fns ie env with
  | err => rw [q] at h; exact (show False from h).elim
  | exc x e1 => rw [q] at h; exact h
  | ok x e1 =>
    rw [q] at h
    have h : WOut G X W σ H O env ((seqV x e1).bind fun ds env => .ok (enumD 0 ds) env) (fun ds env' => ∀ J H' O', Post X.K σ None0 H O env H' O' env' → Src X.K H' O' J ds → R J H') := h
    obtain ⟨d, l, e2, q1, q2, hp⟩ := seqV_out (Out.bind h)
    show ∀ vs H' O', RPosts X.K σ H O env H' O' e1 [x] vs → _
    intro vs H1 O1 p1
    match vs, p1 with
    | [v], p1 =>
      have p1' : RPost X.K σ H O env H1 O1 e1 x v := ⟨p1.p, p1.vr.1, fun a ha => p1.t a (List.mem_append_left _ ha)⟩
      obtain ⟨O2, p, hr⟩ := take_post er p1' q1
      rcases seqD_cases q2 with z | z
      · subst z
        obtain ⟨a, rfl⟩ := rep_ref (.inl hr)
        have hr' := hr
        simp only [Rep] at hr'
        obtain ⟨b, xs, e, _, s, _⟩ := hr'
        cases e
        exact ⟨a, xs, rfl, .inl ⟨s, hp _ _ _ p (src_enumL hr)⟩⟩
      · subst z
        obtain ⟨a, rfl⟩ := rep_ref (.inr hr)
        obtain ⟨xs, s, sr⟩ := src_enumT hr
        exact ⟨a, xs, rfl, .inr ⟨s, hp _ _ _ p sr⟩⟩
    | [], p1 => exact p1.vr.elim
    | _ :: _ :: _, p1 => exact p1.vr.2.elim
theorem si_zip {e e2 : Expr} {elts : List Expr} {kk : Nat} {tpos : Pos} {ie ie2 : E} {p pos : Pos} (hg : Gl X "zip") (hm : X.mg "zip" = none) (hs : starEach [e, e2] X.env = (false, eval e X.env) :: starEach [e2] X.env) (hs2 : starEach [e2] X.env = [(false, eval e2 X.env)]) (he : SE G X C fns e ie) (he2 : SE G X C fns e2 ie2) :
    SI G X C fns (.Tuple elts kk tpos) (.Call (.Name "zip" p) [e, e2] [] pos) (.zip ie ie2) := by
  intro σ H O env R W tk er h
  refine TMi.of (RZ.pi_zipA hg hm (paM [e, e2]) hs (by rw [hs2]; rfl)) ?_
  have sa : SA G X C fns [e, e2] [ie, ie2] := sa_cons hs he (sa_cons (by rw [hs2]; rfl) he2 sa_nil)
  simp only [evIt] at h
  refine sa σ H O env _ W tk er ?_
  simp only [evEs]
  cases q : evE C fns ie env with
  | err => rw [q] at h; exact (show False from h).elim
  | exc x e1 => rw [q] at h; exact h
  | ok x e1 =>
    rw [q] at h
    simp only [Res.bind] at h ⊢
    cases q2 : evE C fns ie2 e1 with
    | err => rw [q2] at h; exact (show False from h).elim
    | exc x e1 => rw [q2] at h; exact h
    | ok y e2 =>
      rw [q2] at h
      simp only at h ⊢
      cases q3 : takeDs [x, y] e2 with
      | none => rw [q3] at h; exact (show False from h).elim
      | some r =>
        obtain ⟨ds, e3⟩ := r
        rw [q3] at h
        intro vs H1 O1 p1
        obtain ⟨O2, p, hr⟩ := takes_post er p1 q3
        match ds, h, hr with
        | [], h, hr => exact (show False from h).elim
        | [_], h, hr => exact (show False from h).elim
        | _ :: _ :: _ :: _, h, hr => exact (show False from h).elim
        | [dx, dy], h, hr =>
          obtain ⟨vx, r1, e1, hx, h2⟩ := hr
          obtain ⟨vy, r2, e2, hy, h3⟩ := h2
          have h3 : r2 = [] := h3
          subst e1 e2 h3
          match dx, dy, h, hx, hy with
          | .lst l, .lst m, h, hx, hy =>
            obtain ⟨a, rfl⟩ := rep_ref (.inl hx)
            obtain ⟨b, rfl⟩ := rep_ref (.inl hy)
            have hr1 := hx
            have hr2 := hy
            simp only [Rep] at hr1 hr2
            obtain ⟨b1, xs, e1, _, s1, _⟩ := hr1
            obtain ⟨b2, ys, e2, _, s2, _⟩ := hr2
            cases e1
            cases e2
            exact ⟨a, b, xs, ys, rfl, .inl ⟨s1, s2, h _ _ _ p (src_zipL hx hy)⟩⟩
          | .tup l, .tup m, h, hx, hy =>
            obtain ⟨a, rfl⟩ := rep_ref (.inr hx)
            obtain ⟨b, rfl⟩ := rep_ref (.inr hy)
            obtain ⟨xs, ys, s1, s2, sr⟩ := src_zipT hx hy
            exact ⟨a, b, xs, ys, rfl, .inr ⟨s1, s2, h _ _ _ p sr⟩⟩
end
end PB

/-! PBl -/
/-! PB, part L: targets; comprehensions. -/
namespace PB
open PySem L2
variable [Tb]
section
variable {G : Glob} {X : Cx} {C : Callee} {fns : List Fn} {σ σ' σ2 σ3 : L2.St} {H H' H2 H3 : Hp} {O O' O2 O3 : Addr → Prop} {env env' env2 env3 : Env} {W : WX}

def TMg (X : Cx) (tg : Expr) (v : V) (σ : L2.St) (H : Hp) (Q : L2.St → Hp → Prop) : Prop := ∀ (pins : List (Addr × Obj)) (s : Shared) (u : Value), Inv X pins σ H s → RelV v u →
  wpAny (model X.prog X.w) X.A (assign tg X.env u) (fun _ s' => ∃ σ' H', Inv X pins σ' H' s' ∧ Q σ' H') X.xe s
def TMgs (X : Cx) (ts : List Expr) (vs : List V) (σ : L2.St) (H : Hp) (Q : L2.St → Hp → Prop) : Prop := ∀ (pins : List (Addr × Obj)) (s : Shared) (us : List Value), Inv X pins σ H s → Vals vs us →
  wpAny (model X.prog X.w) X.A (assignInOrder ((assignEach ts X.env).map (·.2)) us) (fun _ s' => ∃ σ' H', Inv X pins σ' H' s' ∧ Q σ' H') X.xe s
theorem pgM (tg : Expr) : PG X tg (TMg X tg) := ⟨fun pins s _ _ v u _ I r h => h pins s u I r⟩
theorem pgsM (ts : List Expr) : PGs X ts (TMgs X ts) := ⟨fun pins s _ _ v u _ I r h => h pins s u I r⟩
theorem TMg.of {tg : Expr} {t : TG} {v : V} {Q : L2.St → Hp → Prop} (h : PG X tg t) (q : t v σ H Q) : TMg X tg v σ H Q := fun pins s u I r => h.run pins s σ H v u Q I r q
theorem TMgs.of {ts : List Expr} {t : TGs} {vs : List V} {Q : L2.St → Hp → Prop} (h : PGs X ts t) (q : t vs σ H Q) : TMgs X ts vs σ H Q := fun pins s u I r => h.run pins s σ H vs u Q I r q

abbrev SWOut {A : Type} (G : Glob) (X : Cx) (W : WX) (σ : L2.St) (H : Hp) (O : Addr → Prop) (env : Env) (r : Res A) (P : A → Env → Prop) : Prop :=
  Out r P (fun x env' => ∀ cls d σ' H' O', SPost X.K None0 σ H O env σ' H' O' env' → ExcR G X.K H' O' x cls d → W cls d σ' H')
theorem SWOut.behind {A : Type} {r : Res A} {P P' : A → Env → Prop} (e : EnvR X.K H O σ env) (p : SPost X.K None0 σ H O env σ' H' O' env') (h : SWOut G X W σ H O env r P) (q : ∀ a e, r = .ok a e → P a e → P' a e) : SWOut G X W σ' H' O' env' r P' :=
  Out.mono h q fun x e' k cls d σ2 H2 O2 sp ex => k cls d σ2 H2 O2 (p.then0 e sp) ex
theorem SWOut.w {A : Type} {r : Res A} {P P' : A → Env → Prop} (h : SWOut G X W σ H O env r P) (q : ∀ a e, r = .ok a e → P a e → P' a e) : WOut G X W σ H O env r P' :=
  Out.mono h q fun x e k cls d H2 O2 xp => k cls d σ H2 O2 xp.p.s xp.x
def SG (G : Glob) (X : Cx) (C : Callee) (fns : List Fn) (tg : Expr) (t : Tg) : Prop := ∀ (σ : L2.St) (H : Hp) (O : Addr → Prop) (env : Env) (v : V) (d : D) (Q : L2.St → Hp → Prop) (W : WX), Takes X W → EnvR X.K H O σ env → Rep X.K H O d v →
  SWOut G X W σ H O env (asT C fns t d env) (fun _ env' => ∀ σ' H' O', SPost X.K None0 σ H O env σ' H' O' env' → (∀ j, j ∉ t.slots → σ'[j]? = σ[j]?) → Q σ' H') → TMg X tg v σ H Q
def SGs (G : Glob) (X : Cx) (C : Callee) (fns : List Fn) (tgs : List Expr) (ts : List Tg) : Prop := ∀ (σ : L2.St) (H : Hp) (O : Addr → Prop) (env : Env) (vs : List V) (ds : List D) (Q : L2.St → Hp → Prop) (W : WX), Takes X W → EnvR X.K H O σ env → Reps X.K H O ds vs →
  SWOut G X W σ H O env (asTs C fns ts ds env) (fun _ env' => ∀ σ' H' O', SPost X.K None0 σ H O env σ' H' O' env' → (∀ j, j ∉ Tg.slotss ts → σ'[j]? = σ[j]?) → Q σ' H') → TMgs X tgs vs σ H Q

theorem sg_name {i : Nat} {x : Str} {pos : Pos} (hN : X.N.Nodup) (hi : X.N[i]? = some x) (hx : Loc X.env.scope x) (hf : X.fn x = true ∨ X.env.scope.names.lookup x = some .local) : SG G X C fns (.Name x pos) (.nm i) := by
  intro σ H O env v d Q W tk er hr h
  refine TMg.of (pg_name hN hi hx hf) ?_
  simp only [asT] at h
  cases q : setV env i (.val d) with
  | none => rw [q] at h; exact (show False from h).elim
  | some env1 =>
    rw [q] at h
    refine h _ _ _ (SPost.setVal er hr q) fun j hj => ?_
    have : j ≠ i := fun z => hj (by rw [z]; exact List.mem_singleton.mpr rfl)
    exact List.getElem?_set_ne (Ne.symm this)
theorem sgs_nil : SGs G X C fns [] [] := by
  intro σ H O env vs ds Q W tk er hr h
  cases ds with
  | nil =>
    have hv : vs = [] := hr
    subst hv
    exact TMgs.of pgs_nil ⟨rfl, h σ H O (SPost.refl er) fun _ _ => rfl⟩
  | cons d ds => exact (show False from h).elim
theorem sgs_cons {e : Expr} {es : List Expr} {t : Tg} {ts : List Tg} (hs : (assignEach (e :: es) X.env).map (·.2) = assign e X.env :: (assignEach es X.env).map (·.2)) (h1 : SG G X C fns e t) (h2 : SGs G X C fns es ts) : SGs G X C fns (e :: es) (t :: ts) := by
  intro σ H O env vs ds Q W tk er hr h
  cases ds with
  | nil => exact (show False from h).elim
  | cons d ds =>
    obtain ⟨v, r, e1, hv, hr⟩ := hr
    subst e1
    refine TMgs.of (pgs_cons (pgM e) (pgsM es) hs) ⟨v, r, rfl, ?_⟩
    simp only [asTs] at h
    refine h1 σ H O env v d _ W tk er hv (Out.mono (Out.bind h) (fun _ env1 _ k σ1 H1 O1 p1 s1 => ?_) fun _ _ k => k)
    refine h2 σ1 H1 O1 env1 r ds Q W tk p1.er (hr.step (p1.fz er)) (SWOut.behind er p1 k fun _ env2 _ k2 σ2 H2 O2 p2 s2 => ?_)
    refine k2 σ2 H2 O2 (p1.then0 er p2) fun j hj => ?_
    have hj' : j ∉ t.slots ∧ j ∉ Tg.slotss ts := by
      have : j ∉ t.slots ++ Tg.slotss ts := hj
      simpa using this
    rw [s2 j hj'.2, s1 j hj'.1]
theorem sg_tup {es : List Expr} {ts : List Tg} {k : Nat} {pos : Pos} (hc : X.calm = true) (hn : (assignEach es X.env).length = ts.length) (hst : (assignEach es X.env).findIdx? (·.1) = none) (h : SGs G X C fns es ts) : SG G X C fns (.Tuple es k pos) (.tp ts) := by
  intro σ H O env v d Q W tk er hr q
  cases d with
  | tup ds =>
    simp only [Rep] at hr
    obtain ⟨a, xs, e1, n, s, r⟩ := hr
    subst e1
    simp only [asT] at q
    split at q
    · rename_i hz
      refine TMg.of (pg_tup hc (pgsM es) hn hst) ⟨a, xs, rfl, .inl (.inl s), by rw [← r.length, hz], ?_⟩
      exact h σ H O env xs ds Q W tk er r q
    · exact (show False from q).elim
  | _ =>
    simp only [asT] at q
    exact (show False from q).elim

/-! ### o[i] = v -/
theorem set_any (hu : X.A.units + 1 < cLine) : PSet X (fun o i v H Q => rSetL o i v H Q ∨ rSetD o i v H Q) := by
  intro pins s σ H o i v ov iv u Q I ro ri rv h
  rcases h with h | h
  · exact set_list pins s σ H o i v ov iv u Q I ro ri rv h
  · exact set_dict hu pins s σ H o i v ov iv u Q I ro ri rv h
theorem Rept.any {K : PySem.W.Frag} {k : List Key} : ∀ {l : List (List Key × D)} {xs : List (List Key × V)}, Rept K H O l xs → (l.any fun p => decide (p.1 = k)) = (xs.any fun p => decide (p.1 = k))
  | [], xs, h => by
    have h : xs = [] := h
    subst h
    rfl
  | (k', d) :: ds, xs, h => by
    obtain ⟨x, r, e, h1, h2⟩ : ∃ x r, xs = (k', x) :: r ∧ Rep K H O d x ∧ Rept K H O ds r := h
    subst e
    rw [List.any_cons, List.any_cons, Rept.any h2]
theorem Rept.map {K : PySem.W.Frag} {k : List Key} {d : D} {v : V} (hv : Rep K H O d v) : ∀ {l : List (List Key × D)} {xs : List (List Key × V)}, Rept K H O l xs → Rept K H O (l.map fun p => if p.1 = k then (p.1, d) else p) (xs.map fun p => if p.1 = k then (p.1, v) else p)
  | [], xs, h => by
    have h : xs = [] := h
    subst h
    exact rfl
  | (k', d') :: ds, xs, h => by
    obtain ⟨x, r, e, h1, h2⟩ : ∃ x r, xs = (k', x) :: r ∧ Rep K H O d' x ∧ Rept K H O ds r := h
    subst e
    rw [List.map_cons, List.map_cons]
    by_cases z : k' = k
    · rw [if_pos z, if_pos z]
      exact ⟨v, _, rfl, hv, Rept.map hv h2⟩
    · rw [if_neg z, if_neg z]
      exact ⟨x, _, rfl, h1, Rept.map hv h2⟩
theorem Rept.snoc {K : PySem.W.Frag} {k : List Key} {d : D} {v : V} (hv : Rep K H O d v) : ∀ {l : List (List Key × D)} {xs : List (List Key × V)}, Rept K H O l xs → Rept K H O (l ++ [(k, d)]) (xs ++ [(k, v)])
  | [], xs, h => by
    have h : xs = [] := h
    subst h
    exact ⟨v, [], rfl, hv, rfl⟩
  | (k', d') :: ds, xs, h => by
    obtain ⟨x, r, e, h1, h2⟩ : ∃ x r, xs = (k', x) :: r ∧ Rep K H O d' x ∧ Rept K H O ds r := h
    subst e
    exact ⟨x, _, rfl, h1, Rept.snoc hv h2⟩
theorem Rept.put {K : PySem.W.Frag} {k : List Key} {d : D} {v : V} {l : List (List Key × D)} {xs : List (List Key × V)} (h : Rept K H O l xs) (hv : Rep K H O d v) : Rept K H O (kput l k d) (putK xs k v) := by
  unfold kput putK
  rw [h.any]
  split
  · exact Rept.map hv h
  · exact Rept.snoc hv h
theorem Rept.length {K : PySem.W.Frag} : ∀ {l : List (List Key × D)} {xs : List (List Key × V)}, Rept K H O l xs → l.length = xs.length
  | [], xs, h => by
    have h : xs = [] := h
    rw [h]; rfl
  | (k, d) :: ds, xs, h => by
    obtain ⟨x, r, e, _, h2⟩ : ∃ x r, xs = (k, x) :: r ∧ Rep K H O d x ∧ Rept K H O ds r := h
    rw [e, List.length_cons, List.length_cons, Rept.length h2]
theorem put_run {c k d c' : D} {p : Addr} {y v : V} {Q : Hp → Prop} (hc : Shp X.K H O c p) (hk : RdR X.K H O k y) (hv : Rep X.K H O d v) (e : subPut c k d = some c')
    (q : ∀ o, (∀ H' O', Fz H O H' O' → H' p = some o → Shp X.K H' O' c' p) → Q (upd H p o)) : rSetL (.ref p) y v H Q ∨ rSetD (.ref p) y v H Q := by
  cases c with
  | lst l =>
    obtain ⟨xs, hp, r⟩ := hc
    cases k with
    | int i =>
      have e : (match ixN l.length i with
        | some j => some (D.lst (l.set j d))
        | none => none) = some c' := e
      cases q1 : ixN l.length i with
      | none => rw [q1] at e; cases e
      | some j =>
        rw [q1] at e
        cases e
        refine .inl ⟨p, xs, i, j, rfl, hk.int, hp, by rw [← r.length]; exact q1, q _ fun H' O' f h => ⟨_, h, ?_⟩⟩
        exact (r.step f).set j (Rep.step f _ _ hv)
    | _ => exact nomatch e
  | dk l =>
    obtain ⟨xs, hp, r⟩ := hc
    have e : (match keyD k with
      | some k => if l.length < sizeLine then some (D.dk (kput l k d)) else none
      | none => none) = some c' := e
    cases q1 : keyD k with
    | none => rw [q1] at e; cases e
    | some kk =>
      rw [q1] at e
      simp only at e
      split at e
      · rename_i hl
        cases e
        have ey := keyD_rd hk q1
        subst ey
        refine .inr ⟨p, _, rfl, DPut.k hp (by rw [← r.length]; exact hl), q _ fun H' O' f h => ⟨_, h, ?_⟩⟩
        exact (r.step f).put (Rep.step f _ _ hv)
      · cases e
  | dt l =>
    obtain ⟨xs, hp, r⟩ := hc
    cases k with
    | tup ds =>
      have e : (match keysD ds with
        | some k => if l.length < sizeLine then some (D.dt (kput l k d)) else none
        | none => none) = some c' := e
      cases q1 : keysD ds with
      | none => rw [q1] at e; cases e
      | some kk =>
        rw [q1] at e
        simp only at e
        split at e
        · rename_i hl
          cases e
          obtain ⟨b, zs, e1, e2, r2⟩ := hk.tup
          subst e1
          have ez := keysD_rep r2 q1
          subst ez
          refine .inr ⟨p, _, rfl, DPut.t hp e2 (by rw [← r.length]; exact hl), q _ fun H' O' f h => ⟨_, h, ?_⟩⟩
          exact (r.step f).put (Rep.step f _ _ hv)
        · cases e
    | _ => exact nomatch e
  | _ => exact nomatch e
theorem sg_sub (hu : X.A.units + 1 < cLine) {x : Str} {i : Nat} {ke : Expr} {ik : E} {p1 pos : Pos} (hN : X.N[i]? = some x) (hv : Vis X.env.scope x) (h1 : (x == ("__debug__" : Str)) = false) (h2 : (x == ("__classdict__" : Str)) = false)
    (ha : ∀ v, assign (.Subscript (.Name x p1) ke pos) X.env v = (do
      let ov ← holding [v] (eval (.Name x p1) X.env)
      let iv ← holding [v, ov] (eval ke X.env)
      standAt pos
      holding [v, ov, iv] (setItem ov iv v)
      release [v, ov, iv] [])) (hk : SE G X C fns ke ik) : SG G X C fns (.Subscript (.Name x p1) ke pos) (.sub i ik) := by
  intro σ H O env v d Q W tk er hr h
  refine TMg.of (pg_sub (pe_var hN hv h1 h2) (peM ke) (set_any hu) ha) ?_
  simp only [asT] at h
  cases q0 : ownD env i with
  | none => rw [q0] at h; exact (show False from h).elim
  | some c0 =>
  rw [q0] at h
  simp only at h
  obtain ⟨w0, hw, _⟩ := er.own i c0 (ownD_some q0)
  refine ⟨_, hw, ?_⟩
  refine hk σ H O env _ W tk er (SWOut.w (Out.bind h) fun y env1 q1 k vy H1 O1 p1 => ?_)
  cases q2 : nowD env1 y with
  | none => simp only [q2] at k; exact (show False from k).elim
  | some kd =>
    cases q3 : ownD env1 i with
    | none => simp only [q2, q3] at k; exact (show False from k).elim
    | some c =>
      simp only [q2, q3] at k
      cases q4 : subPut c kd d with
      | none => rw [q4] at k; exact (show False from k).elim
      | some c' =>
        rw [q4] at k
        simp only at k
        cases q5 : putOwn env1 i c' with
        | none => rw [q5] at k; exact (show False from k).elim
        | some env2 =>
          rw [q5] at k
          have ho := ownD_some q3
          obtain ⟨p, hp, hO, hS⟩ := p1.p.er.own i c ho
          rw [hw] at hp
          cases hp
          have rk := VdR.now p1.p.er p1.vr q2
          have rv := p1.p.rep er hr
          refine put_run hS rk rv q4 fun o hsh => ?_
          have sp := SPost.put p1.p.er ho hw hsh q5
          exact k σ _ O1 (p1.p.s.then0 er sp) fun _ _ => rfl
end
end PB

/-! PBm -/
/-! PB, part M: comprehensions. -/
namespace PB
open PySem L2
variable [Tb]
/-! a target of names alone -/
mutual
def Tg.plain : Tg → Bool
  | .nm _ => true
  | .tp ts => Tg.plains ts
  | .sub _ _ => false
  | .att _ _ => false
def Tg.plains : List Tg → Bool
  | [] => true
  | t :: ts => t.plain && Tg.plains ts
end
section
variable {C : Callee} {fns : List Fn}
mutual
theorem asT_plain : ∀ (t : Tg) (d : D) (env env' : Env) (u : Unit), t.plain = true → asT C fns t d env = .ok u env' → (∀ j, j ∉ t.slots → env'[j]? = env[j]?) ∧ ∀ j, j ∈ t.slots → ∃ d', env'[j]? = some (.val d')
  | .nm i, d, env, env', u, hp, h => by
    simp only [asT] at h
    cases q : setV env i (.val d) with
    | none => rw [q] at h; cases h
    | some e1 =>
      rw [q] at h
      cases h
      obtain ⟨hi, rfl, _⟩ := setV_some q
      refine ⟨fun j hj => ?_, fun j hj => ?_⟩
      · have : j ≠ i := fun z => hj (by rw [z]; exact List.mem_singleton.mpr rfl)
        exact List.getElem?_set_ne (Ne.symm this)
      · have : j = i := List.mem_singleton.mp hj
        rw [this, List.getElem?_set_self hi]
        exact ⟨d, rfl⟩
  | .tp ts, d, env, env', u, hp, h => by
    cases d with
    | tup ds =>
      simp only [asT] at h
      split at h
      · exact asTs_plain ts ds env env' u hp h
      · cases h
    | _ => simp only [asT] at h; cases h
  | .sub _ _, _, _, _, _, hp, _ => nomatch hp
theorem asTs_plain : ∀ (ts : List Tg) (ds : List D) (env env' : Env) (u : Unit), Tg.plains ts = true → asTs C fns ts ds env = .ok u env' → (∀ j, j ∉ Tg.slotss ts → env'[j]? = env[j]?) ∧ ∀ j, j ∈ Tg.slotss ts → ∃ d', env'[j]? = some (.val d')
  | [], [], env, env', u, _, h => by
    simp only [asTs] at h
    cases h
    exact ⟨fun _ _ => rfl, fun j hj => nomatch hj⟩
  | [], _ :: _, env, env', u, _, h => by simp only [asTs] at h; cases h
  | _ :: _, [], env, env', u, _, h => by simp only [asTs] at h; cases h
  | t :: ts, d :: ds, env, env', u, hp, h => by
    simp only [asTs] at h
    have hp : (t.plain && Tg.plains ts) = true := hp
    simp only [Bool.and_eq_true] at hp
    cases q : asT C fns t d env with
    | err => rw [q] at h; cases h
    | exc x e => rw [q] at h; cases h
    | ok v e1 =>
      rw [q] at h
      have h : asTs C fns ts ds e1 = .ok u env' := h
      obtain ⟨a1, a2⟩ := asT_plain t d env e1 v hp.1 q
      obtain ⟨b1, b2⟩ := asTs_plain ts ds e1 env' u hp.2 h
      refine ⟨fun j hj => ?_, fun j hj => ?_⟩
      · have hj : j ∉ t.slots ++ Tg.slotss ts := hj
        have hj : j ∉ t.slots ∧ j ∉ Tg.slotss ts := by simpa using hj
        rw [b1 j hj.2, a1 j hj.1]
      · have hj : j ∈ t.slots ++ Tg.slotss ts := hj
        by_cases z : j ∈ Tg.slotss ts
        · exact b2 j z
        · rw [b1 j z]
          exact a2 j ((List.mem_append.mp hj).elim id fun y => absurd y z)
end
end
/-! ### slots forgotten -/
theorem clear_out {env : Env} {j : Nat} : ∀ {vs : List Nat}, j ∉ vs → (clear env vs)[j]? = env[j]?
  | [], _ => rfl
  | v :: vs, h => by
    have h : j ≠ v ∧ j ∉ vs := by simpa using h
    show ((clear env vs).set v .no)[j]? = _
    rw [List.getElem?_set_ne (Ne.symm h.1), clear_out h.2]
theorem clear_length {env : Env} : ∀ {vs : List Nat}, (clear env vs).length = env.length
  | [] => rfl
  | v :: vs => by show ((clear env vs).set v .no).length = _; rw [List.length_set, clear_length]
theorem clear_in {env : Env} {j : Nat} {s : Slot} : ∀ {vs : List Nat}, j ∈ vs → (clear env vs)[j]? = some s → s = .no
  | v :: vs, h, e => by
    have e : ((clear env vs).set v .no)[j]? = some s := e
    rcases get_set e with ⟨_, z⟩ | ⟨z, q⟩
    · exact z
    · exact clear_in ((List.mem_cons.mp h).elim (fun y => absurd y z) id) q
theorem wipe_out {σ : L2.St} {j : Nat} : ∀ {vs : List Nat}, j ∉ vs → (wipe σ vs)[j]? = σ[j]?
  | [], _ => rfl
  | v :: vs, h => by
    have h : j ≠ v ∧ j ∉ vs := by simpa using h
    show ((wipe σ vs).set v none)[j]? = _
    rw [List.getElem?_set_ne (Ne.symm h.1), wipe_out h.2]
theorem wipe_in {σ : L2.St} {j : Nat} : ∀ {vs : List Nat}, j ∈ vs → j < σ.length → (wipe σ vs)[j]? = some none
  | v :: vs, h, hl => by
    show ((wipe σ vs).set v none)[j]? = _
    by_cases z : j = v
    · rw [z, List.getElem?_set_self (by rw [wipe_length, ← z]; exact hl)]
    · rw [List.getElem?_set_ne (Ne.symm z)]
      exact wipe_in ((List.mem_cons.mp h).elim (fun y => absurd y z) id) hl
theorem wipe_congr {σ σ' : L2.St} {vs : List Nat} (hl : σ.length = σ'.length) (h : ∀ j, j ∉ vs → σ[j]? = σ'[j]?) : wipe σ vs = wipe σ' vs := by
  apply List.ext_getElem?
  intro j
  by_cases z : j ∈ vs
  · by_cases hj : j < σ.length
    · rw [wipe_in z hj, wipe_in z (by rw [← hl]; exact hj)]
    · rw [List.getElem?_eq_none (by rw [wipe_length]; omega), List.getElem?_eq_none (by rw [wipe_length]; omega)]
  · rw [wipe_out z, wipe_out z, h j z]
theorem restore_out {old env : Env} {j : Nat} : ∀ {vs : List Nat}, j ∉ vs → (restore old env vs)[j]? = env[j]?
  | [], _ => rfl
  | v :: vs, h => by
    have h : j ≠ v ∧ j ∉ vs := by simpa using h
    simp only [restore]
    split
    · rw [List.getElem?_set_ne (Ne.symm h.1), restore_out h.2]
    · exact restore_out h.2
theorem restore_length {old env : Env} : ∀ {vs : List Nat}, (restore old env vs).length = env.length
  | [] => rfl
  | v :: vs => by
    simp only [restore]
    split
    · rw [List.length_set, restore_length]
    · exact restore_length
theorem restore_in {old env : Env} {j : Nat} (hl : old.length = env.length) : ∀ {vs : List Nat}, j ∈ vs → (restore old env vs)[j]? = old[j]?
  | v :: vs, h => by
    simp only [restore]
    by_cases z : j = v
    · subst z
      split
      · rename_i s q
        have hj : j < old.length := (List.getElem?_eq_some_iff.mp q).1
        rw [List.getElem?_set_self (by rw [restore_length, ← hl]; exact hj), q]
      · rename_i q
        have hj : ¬ j < old.length := fun y => by rw [List.getElem?_eq_getElem y] at q; cases q
        rw [q, List.getElem?_eq_none (by rw [restore_length, ← hl]; omega)]
    · have hm : j ∈ vs := (List.mem_cons.mp h).elim (fun y => absurd y z) id
      split
      · rw [List.getElem?_set_ne (Ne.symm z)]
        exact restore_in hl hm
      · exact restore_in hl hm
section
variable {K : PySem.W.Frag} {σ σ' σ2 σ3 : L2.St} {H H' H2 H3 H5 : Hp} {O O' O2 O3 O5 : Addr → Prop} {env env' env2 env3 e1 e3 e6 : Env} {vs : List Nat}
theorem EnvR.wiped (e : EnvR K H O σ env) (vs : List Nat) : EnvR K H O (wipe σ vs) (clear env vs) := by
  have out : ∀ (j : Nat) (s : Slot), (clear env vs)[j]? = some s → s ≠ .no → j ∉ vs ∧ env[j]? = some s := fun j s h n => by
    by_cases z : j ∈ vs
    · exact absurd (clear_in z h) n
    · rw [clear_out z] at h
      exact ⟨z, h⟩
  have ow : ∀ (j : Nat) (d : D), ((clear env vs)[j]? = some (.own d) ∨ (clear env vs)[j]? = some (.ref d)) → j ∉ vs ∧ (env[j]? = some (.own d) ∨ env[j]? = some (.ref d)) := fun j d h => by
    rcases h with h | h
    · obtain ⟨z, q⟩ := out j _ h (fun z => nomatch z)
      exact ⟨z, .inl q⟩
    · obtain ⟨z, q⟩ := out j _ h (fun z => nomatch z)
      exact ⟨z, .inr q⟩
  refine ⟨by rw [clear_length, wipe_length]; exact e.len, fun j d h => ?_, fun j d h => ?_, fun j k a d1 d2 h1 h2 s1 s2 => ?_, e.dom⟩
  · obtain ⟨z, q⟩ := out j _ h (fun z => nomatch z)
    rw [wipe_out z]
    exact e.val j d q
  · obtain ⟨z, q⟩ := ow j d h
    rw [wipe_out z]
    exact e.own j d q
  · obtain ⟨z1, q1⟩ := ow j d1 h1
    obtain ⟨z2, q2⟩ := ow k d2 h2
    rw [wipe_out z1] at s1
    rw [wipe_out z2] at s2
    exact e.apart j k a d1 d2 q1 q2 s1 s2
theorem root_wiped {a : Addr} (r : Root (wipe σ vs) (clear env vs) a) : ∃ (i : Nat) (d : D), i ∉ vs ∧ (env[i]? = some (.own d) ∨ env[i]? = some (.ref d)) ∧ σ[i]? = some (some (.ref a)) := by
  obtain ⟨i, d, h, hs⟩ := r
  have z : i ∉ vs := fun z => by
    rcases h with h | h
    · exact nomatch clear_in z h
    · exact nomatch clear_in z h
  rw [clear_out z] at h
  rw [wipe_out z] at hs
  exact ⟨i, d, z, h, hs⟩
theorem root_wipe_of {a : Addr} {i : Nat} {d : D} (z : i ∉ vs) (h : env[i]? = some (.own d) ∨ env[i]? = some (.ref d)) (hs : σ[i]? = some (some (.ref a))) : Root (wipe σ vs) (clear env vs) a :=
  ⟨i, d, by rw [clear_out z]; exact h, by rw [wipe_out z]; exact hs⟩
/-- a turn's end -/
theorem blk_back (er : EnvR K H O (wipe σ vs) (clear env vs)) (sp : SPost K None0 (wipe σ vs) H O (clear env vs) σ3 H3 O3 e3) (ag : ∀ j, j ∉ vs → e3[j]? = (clear env vs)[j]?) (vl : ∀ j, j ∈ vs → ∃ d', e3[j]? = some (.val d'))
    (as : ∀ j, j ∉ vs → σ3[j]? = (wipe σ vs)[j]?) (hw : wipe σ3 vs = wipe σ vs) (p : Post K σ3 None0 H3 O3 e3 H5 O5 e6) : Post K (wipe σ vs) None0 H O (clear env vs) H5 O5 (clear e6 vs) := by
  have S := sp.then0 er p.s
  refine ⟨S.ext, by rw [← hw]; exact S.er.wiped vs, S.new, S.hold, fun a z => ?_, fun _ z => z.elim, fun j => ?_⟩
  · rw [← hw] at z
    obtain ⟨i, d, zi, h, hs⟩ := root_wiped z
    obtain ⟨k, d', h', hs'⟩ := p.root a ⟨i, d, h, hs⟩
    by_cases zk : k ∈ vs
    · obtain ⟨d2, q⟩ := vl k zk
      rw [q] at h'
      rcases h' with h' | h' <;> cases h'
    · rw [ag k zk] at h'
      rw [as k zk] at hs'
      exact ⟨k, d', h', hs'⟩
  · by_cases z : j ∈ vs
    · refine ⟨fun ⟨d, h⟩ => (nomatch clear_in z h), fun ⟨d, h⟩ => (nomatch clear_in z h)⟩
    · rw [clear_out (env := e6) z, ← p.refs j, ag j z]
/-- the block's end -/
theorem blk_end (er : EnvR K H O σ env) (b : Post K (wipe σ vs) None0 H O (clear env vs) H' O' (clear env' vs)) : Post K σ None0 H O env H' O' (restore env env' vs) := by
  have hl : env.length = env'.length := by
    have h1 := b.er.len
    rw [clear_length, wipe_length] at h1
    rw [er.len, h1]
  have sub : ∀ a, Root (wipe σ vs) (clear env vs) a → Root σ env a := fun a z => by
    obtain ⟨i, d, _, h, hs⟩ := root_wiped z
    exact ⟨i, d, h, hs⟩
  have f : Fz H O H' O' := b.fz (er.wiped vs)
  -- the thing of a forgotten slot is nobody's root within
  have apart : ∀ (i : Nat) (d : D) (a : Addr), i ∈ vs → (env[i]? = some (.own d) ∨ env[i]? = some (.ref d)) → σ[i]? = some (some (.ref a)) → ¬ Root (wipe σ vs) (clear env vs) a := fun i d a hi h hs z => by
    obtain ⟨k, d', zk, h', hs'⟩ := root_wiped z
    have := er.apart i k a d d' h h' hs hs'
    exact zk (by rw [← this]; exact hi)
  have back : ∀ (j : Nat) (d : D) (a : Addr), j ∉ vs → (env'[j]? = some (.own d) ∨ env'[j]? = some (.ref d)) → σ[j]? = some (some (.ref a)) → Root (wipe σ vs) (clear env vs) a := fun j d a z h hs => b.root a (root_wipe_of z h hs)
  refine ⟨⟨fun a o h n t => b.ext.keep a o h (fun z => n (.inl (sub a (z.elim id fun y => y.elim)))) t, b.ext.dom⟩, ⟨by rw [restore_length, ← hl]; exact er.len, fun j d h => ?_, fun j d h => ?_, fun j k a d1 d2 h1 h2 s1 s2 => ?_, b.er.dom⟩, b.new, fun a h n _ => b.hold a h (fun z => n (sub a z)) id, fun a ⟨j, d, h, hs⟩ => ?_, fun _ z => z.elim, fun j => ?_⟩
  · by_cases z : j ∈ vs
    · rw [restore_in hl z] at h
      obtain ⟨v, h1, h2⟩ := er.val j d h
      exact ⟨v, h1, Rep.step f d v h2⟩
    · rw [restore_out z, ← clear_out z] at h
      obtain ⟨v, h1, h2⟩ := b.er.val j d h
      rw [wipe_out z] at h1
      exact ⟨v, h1, h2⟩
  · by_cases z : j ∈ vs
    · rw [restore_in hl z] at h
      obtain ⟨a, h1, h2, h3⟩ := er.own j d h
      have n := apart j d a z h h1
      exact ⟨a, h1, b.hold a h2 n id, h3.step f fun o q t => b.ext.keep a o q (fun y => n (y.elim id fun y => y.elim)) t⟩
    · rw [restore_out z, ← clear_out z] at h
      obtain ⟨a, h1, h2, h3⟩ := b.er.own j d h
      rw [wipe_out z] at h1
      exact ⟨a, h1, h2, h3⟩
  · by_cases zj : j ∈ vs <;> by_cases zk : k ∈ vs
    · rw [restore_in hl zj] at h1
      rw [restore_in hl zk] at h2
      exact er.apart j k a d1 d2 h1 h2 s1 s2
    · rw [restore_in hl zj] at h1
      rw [restore_out zk] at h2
      exact (apart j d1 a zj h1 s1 (back k d2 a zk h2 s2)).elim
    · rw [restore_out zj] at h1
      rw [restore_in hl zk] at h2
      exact (apart k d2 a zk h2 s2 (back j d1 a zj h1 s1)).elim
    · rw [restore_out zj, ← clear_out zj] at h1
      rw [restore_out zk, ← clear_out zk] at h2
      exact b.er.apart j k a d1 d2 h1 h2 (by rw [wipe_out zj]; exact s1) (by rw [wipe_out zk]; exact s2)
  · by_cases z : j ∈ vs
    · rw [restore_in hl z] at h
      exact ⟨j, d, h, hs⟩
    · rw [restore_out z] at h
      exact sub a (back j d a z h hs)
  · by_cases z : j ∈ vs
    · rw [restore_in hl z]
    · rw [restore_out z, ← clear_out (env := env) z, b.refs j, clear_out z]
end
section
variable {G : Glob} {X : Cx} {C : Callee} {fns : List Fn} {σ : L2.St} {H : Hp} {O : Addr → Prop} {env : Env} {W : WX}
def TMc (X : Cx) (ifs : List Expr) (σ : L2.St) (H : Hp) (Q : Bool → Hp → Prop) : Prop := ∀ (pins : List (Addr × Obj)) (s : Shared), Inv X pins σ H s →
  wpAny (model X.prog X.w) X.A (forIn ifs true fun c r => if r = true then do let ok ← isTrue c X.env (eval c X.env); pure (ForInStep.yield ok) else pure (ForInStep.yield r)) (TP X pins σ Q) X.xe s
theorem TMc.of {ifs : List Expr} {t : TT} {Q : Bool → Hp → Prop} (h : PTs X ifs t) (q : t σ H Q) : TMc X ifs σ H Q := fun pins s I => h.run pins s σ H Q I q
def SC (G : Glob) (X : Cx) (C : Callee) (fns : List Fn) (ifs : List Expr) (c : Option E) : Prop := ∀ (σ : L2.St) (H : Hp) (O : Addr → Prop) (env : Env) (Q : Bool → Hp → Prop) (W : WX), Takes X W → EnvR X.K H O σ env →
  WOut G X W σ H O env (evC C fns c env) (fun b env' => ∀ H' O', Post X.K σ None0 H O env H' O' env' → Q b H') → TMc X ifs σ H Q
theorem sc_none : SC G X C fns [] none := fun σ H O env Q W tk er h => TMc.of pts_nil (h H O (Post.refl er))
theorem sc_some {e : Expr} {ir : E} (he : ST G X C fns e ir) : SC G X C fns [e] (some ir) := fun σ H O env Q W tk er h => TMc.of (pts_one (ptM e)) (he σ H O env Q W tk er h)
theorem takes_no (X : Cx) : Takes X (fun _ _ _ _ => False) := fun u s' ⟨_, _, _, _, _, _, _, _, _, _, _, _, _, _, _, _, w⟩ => w.elim
section
variable {elt tg iter : Expr} {ifs : List Expr} {scope : Scope} {ie : E} {t : Tg} {it : It} {c : Option E}
def gB (X : Cx) (scope : Scope) (tg : Expr) : TG := fun v σ H Q => ∀ (s : Shared) (H0 : Hp) (Cc : Addr) (cl : List (Str × Addr)) (fp : List Addr), TMg (X.blk s H0 scope (compEnvC scope cl Cc X.env) fp) tg v σ H Q
def tB0 (X : Cx) (scope : Scope) (ifs : List Expr) : TT := fun σ H Q => ∀ (s : Shared) (H0 : Hp) (Cc : Addr) (cl : List (Str × Addr)) (fp : List Addr), TMc (X.blk s H0 scope (compEnvC scope cl Cc X.env) fp) ifs σ H Q
def eB (X : Cx) (scope : Scope) (elt : Expr) : TE := fun σ H Q => ∀ (s : Shared) (H0 : Hp) (Cc : Addr) (cl : List (Str × Addr)) (fp : List Addr), TM (X.blk s H0 scope (compEnvC scope cl Cc X.env) fp) elt σ H Q
/-- the block's promises -/
structure BlkS (G : Glob) (X : Cx) (C : Callee) (fns : List Fn) (scope : Scope) (tg : Expr) (ifs : List Expr) (elt : Expr) (t : Tg) (c : Option E) (ie : E) : Prop where
  g : ∀ (s : Shared) (H0 : Hp) (Cc : Addr) (cl : List (Str × Addr)) (fp : List Addr), SG G (X.blk s H0 scope (compEnvC scope cl Cc X.env) fp) C fns tg t
  c : ∀ (s : Shared) (H0 : Hp) (Cc : Addr) (cl : List (Str × Addr)) (fp : List Addr), SC G (X.blk s H0 scope (compEnvC scope cl Cc X.env) fp) C fns ifs c
  e : ∀ (s : Shared) (H0 : Hp) (Cc : Addr) (cl : List (Str × Addr)) (fp : List Addr), SE G (X.blk s H0 scope (compEnvC scope cl Cc X.env) fp) C fns elt ie
theorem comp_run (hi : SI G X C fns tg iter it) (hp : t.plain = true) (hb : BlkS G X C fns scope tg ifs elt t c ie) {Q : VK} (tk : Takes X W) (er : EnvR X.K H O σ env)
    (h : WOut G X W σ H O env (evE C fns (.comp ie t it c) env) (fun r env' => ∀ v H' O', RPost X.K σ H O env H' O' env' r v → Q v H')) :
    tLc (TMi X tg iter) (gB X scope tg) (tB0 X scope ifs) (eB X scope elt) t.slots σ H Q := by
  simp only [evE] at h
  refine hi σ H O env _ W tk er (Out.mono (Out.bind h) (fun ds env1 _ h1 J H1 O1 p1 src => ?_) fun _ _ k => k)
  clear h
  generalize hvs : t.slots = vs at h1 ⊢
  intro D hD
  have er1 := p1.er
  have erw := er1.wiped vs
  -- what is wanted at the end
  generalize hasg : (fun (d : PB.D) (e : Env) => asT C fns t d (clear e vs)) = asgF at h1
  let Gl : Res (List PB.D) → Prop := fun r => match r with
    | .ok acc env' => ∀ v H' O', RPost X.K σ H O env H' O' (restore env1 env' vs) (.fr (.lst acc)) v → Q v H'
    | _ => False
  let Pv : Nat → Hp → Prop := fun i Hc => ∃ env2 O2 acc xs, Post X.K (wipe σ vs) None0 H1 O1 (clear env1 vs) Hc O2 (clear env2 vs) ∧ O2 D ∧ ¬ Root (wipe σ vs) (clear env2 vs) D ∧ Hc D = some (.lst xs) ∧ Reps X.K Hc O2 acc xs ∧
    Gl (compL asgF (evC C fns c) (evE C fns ie) (ds.drop i) acc env2)
  refine ⟨fun i m Hc => m = ds.length - i ∧ i ≤ ds.length ∧ Pv i Hc, ⟨ds.length, by omega, Nat.zero_le _, env1, _, [], [], Post.more erw (grow_new hD) hD ⟨_, upd_same, pl_lst⟩, .inl rfl, erw.notRoot hD, upd_same, Reps.nil, ?_⟩, ?_⟩
  · rw [List.drop_zero]
    cases q : compL asgF (evC C fns c) (evE C fns ie) ds [] env1 with
    | ok acc env' => rw [q] at h1; exact h1
    | exc x e => rw [q] at h1; exact h1
    | err => rw [q] at h1; exact h1
  · rintro i m Hc ⟨rfl, hi', env2, O2, acc, xs, B, hOD, hRD, hHD, hrs, hg⟩
    have fB := B.fz erw
    by_cases hlt : i < ds.length
    · refine .inr ⟨src.goes i Hc O2 fB hlt, Pv (i + 1), fun Hn pn => ⟨ds.length - (i + 1), by omega, rfl, hlt, pn⟩, fun x H2 hy => ?_⟩
      obtain ⟨hk, hrep⟩ := src.yields i ds[i] Hc O2 x H2 fB B.er.dom (by simp [hlt]) hy
      have B2 := B.then0 (Post.grow B.er hk)
      have hHD2 : H2 D = some (.lst xs) := hk D _ hHD
      have hrs2 : Reps X.K H2 O2 acc xs := hrs.step (fz_grow hk)
      rw [List.drop_eq_getElem_cons hlt] at hg
      simp only [compL] at hg
      cases qa : asgF ds[i] env2 with
      | err => rw [qa] at hg; exact (show False from hg).elim
      | exc y e => rw [qa] at hg; exact (show False from hg).elim
      | ok u e3 =>
        rw [qa] at hg
        simp only at hg
        have qa' : asT C fns t ds[i] (clear env2 vs) = .ok u e3 := by rw [← qa, ← hasg]
        obtain ⟨ag, vl⟩ := asT_plain t _ _ _ _ hp qa'
        rw [hvs] at ag vl
        intro s0 H0 Cc cl fp
        refine hb.g s0 H0 Cc cl fp (wipe σ vs) H2 O2 (clear env2 vs) x ds[i] _ _ (takes_no _) B2.er hrep ?_
        rw [qa']
        intro σ3 H3 O3 sp as
        rw [hvs] at as
        have hl3 : σ3.length = σ.length := by rw [sp.len, wipe_length]
        have hw : wipe σ3 vs = wipe σ vs := wipe_congr hl3 fun j hj => by rw [as j hj, wipe_out hj]
        refine ⟨hw, fun s0 H0 Cc cl fp => ?_⟩
        have hRD3 : ¬ Root σ3 e3 D := fun z => by
          obtain ⟨k, d', h', hs'⟩ := z
          by_cases zk : k ∈ vs
          · obtain ⟨d2, q⟩ := vl k zk
            rw [q] at h'
            rcases h' with h' | h' <;> cases h'
          · rw [ag k zk] at h'
            rw [as k zk] at hs'
            exact hRD ⟨k, d', h', hs'⟩
        have hHD3 : H3 D = some (.lst xs) := sp.ext.keep D _ hHD2 (fun z => z.elim hRD id) pl_lst.2.1
        have hOD3 : O3 D := sp.hold D hOD hRD id
        have hrs3 : Reps X.K H3 O3 acc xs := hrs2.step (sp.fz B2.er)
        refine hb.c s0 H0 Cc cl fp σ3 H3 O3 e3 _ _ (takes_no _) sp.er ?_
        cases qc : evC C fns c e3 with
        | err => rw [qc] at hg; exact (show False from hg).elim
        | exc y e => rw [qc] at hg; exact (show False from hg).elim
        | ok b e4 =>
          rw [qc] at hg
          intro H4 O4 p4
          cases b with
          | false =>
            simp only at hg
            simp only [Bool.false_eq_true, if_false]
            have bb := blk_back B2.er sp ag vl as hw p4
            have B3 := B2.then0 bb
            refine ⟨e4, O4, acc, xs, B3, p4.hold D hOD3 hRD3 id, fun z => hRD (bb.root D z), p4.ext.keep D _ hHD3 (fun z => z.elim hRD3 id) pl_lst.2.1, hrs3.step (p4.fz sp.er), ?_⟩
            cases qr : compL asgF (evC C fns c) (evE C fns ie) (ds.drop (i + 1)) acc e4 with
            | ok acc' env' => rw [qr] at hg; exact hg
            | exc y e => rw [qr] at hg; exact hg
            | err => rw [qr] at hg; exact hg
          | true =>
            simp only at hg
            simp only [if_true]
            intro s0 H0 Cc cl fp
            refine hb.e s0 H0 Cc cl fp σ3 H4 O4 e4 _ _ (takes_no _) p4.er ?_
            cases qe : evE C fns ie e4 with
            | err => rw [qe] at hg; exact (show False from hg).elim
            | exc y e => rw [qe] at hg; exact (show False from hg).elim
            | ok r e5 =>
              rw [qe] at hg
              simp only at hg
              cases qt : takeD r e5 with
              | none => rw [qt] at hg; exact (show False from hg).elim
              | some pr =>
                obtain ⟨y, e6⟩ := pr
                rw [qt] at hg
                simp only at hg
                split at hg
                · rename_i hz
                  intro yv H5 O5 p5
                  obtain ⟨O6, p6, hy6⟩ := take_post p4.er p5 qt
                  have p46 := p4.then0 p6
                  have bb := blk_back B2.er sp ag vl as hw p46
                  have hHD5 : H5 D = some (.lst xs) := p46.ext.keep D _ hHD3 (fun z => z.elim hRD3 id) pl_lst.2.1
                  have hOD6 : O6 D := p46.hold D hOD3 hRD3 id
                  have hrs5 : Reps X.K H5 O6 acc xs := hrs3.step (p46.fz sp.er)
                  have hRD6 : ¬ Root (wipe σ vs) (clear e6 vs) D := fun z => hRD (bb.root D z)
                  have pk := Post.poke (X := X) (o := .lst (xs ++ [yv])) bb.er hOD6 hRD6 pl_lst
                  have B3 := ((B2.then0 bb).trans pk).clean erw fun a z => z.elim (fun z => z.elim) fun z => by rw [z]; exact hD
                  refine ⟨xs, hHD5, by rw [← hrs.length]; exact hz, e6, O6, acc ++ [y], xs ++ [yv], B3, hOD6, hRD6, upd_same, ?_, ?_⟩
                  · exact (hrs5.append (.cons hy6 .nil)).step (pk.fz bb.er)
                  · cases qr : compL asgF (evC C fns c) (evE C fns ie) (ds.drop (i + 1)) (acc ++ [y]) e6 with
                    | ok acc' env' => rw [qr] at hg; exact hg
                    | exc y e => rw [qr] at hg; exact hg
                    | err => rw [qr] at hg; exact hg
                · exact (show False from hg).elim
    · have ei : i = ds.length := by omega
      subst ei
      rw [List.drop_length] at hg
      refine .inl ⟨src.stops Hc O2 fB, hg _ _ O2 ⟨p1.then0 (blk_end er1 B), ⟨D, rfl, hOD, fun z => ?_, xs, hHD, hrs⟩, fun a ha => ?_⟩⟩
      · have z := (blk_end er1 B).root D z
        obtain ⟨o, q, _⟩ := er1.dom D (er1.rootO z)
        rw [hD] at q; cases q
      · have z : a = D := by simpa [tmp] using ha
        rw [z]
        exact p1.ext.free hD
theorem se_comp {own : List (Str × Nat)} {pos : Pos} (hc : X.calm = true) (hN : X.N.Nodup) (hi : SI G X C fns tg iter it) (hp : t.plain = true) (ok : BlkOk X.N X.env.scope scope own) (hsl : own.map (·.2) = t.slots)
    (hb : BlkS G X C fns scope tg ifs elt t c ie) (hs : ∀ x, foldedSetIterable iter X.env x = pure x) : SE G X C fns (.ListComp elt [⟨tg, iter, ifs, 0⟩] scope pos) (.comp ie t it c) := by
  intro σ H O env Q W tk er h
  refine TM.of (pe_lc (own := own) hc hN (piM tg iter) ok (g := gB X scope tg) (tt := tB0 X scope ifs) (te := eB X scope elt) ?_ ?_ ?_ hs) ?_
  · exact fun s H Cc cl fp => ⟨fun pins s' _ _ v u _ I r h => h s H Cc cl fp pins s' u I r⟩
  · exact fun s H Cc cl fp => ⟨fun pins s' _ _ _ I h => h s H Cc cl fp pins s' I⟩
  · exact fun s H Cc cl fp => ⟨fun pins s' _ _ _ I h => h s H Cc cl fp pins s' I⟩
  · rw [hsl]
    exact comp_run hi hp hb tk er h
end
end
end PB

/-! PBn -/
/-! PB, part N: statements. -/
namespace PB
open PySem L2
variable [Tb]
section
variable {G : Glob} {X : Cx} {C : Callee} {fns : List Fn} {Wf : Nat} {σ σ' σ2 σ3 : L2.St} {H H' H1 H2 H3 : Hp} {O O' O1 O2 O3 : Addr → Prop} {env env' env1 env2 env3 : Env} {W : WX} {D : Ends}

def TMs (X : Cx) (st : Stmt) (D : Ends) (σ : L2.St) (H : Hp) : Prop := ∀ (pins : List (Addr × Obj)) (s : Shared), Inv X pins σ H s → wpAny (model X.prog X.w) X.A (exec st X.env) (SP X pins D) X.xe s
def TMss (X : Cx) (st : List Stmt) (D : Ends) (σ : L2.St) (H : Hp) : Prop := ∀ (pins : List (Addr × Obj)) (s : Shared), Inv X pins σ H s → wpAny (model X.prog X.w) X.A (execs st X.env) (SP X pins D) X.xe s
theorem psM (st : Stmt) : PS X st (TMs X st) := ⟨fun pins s _ _ _ I h => h pins s I⟩
theorem pssM (st : List Stmt) : PSs X st (TMss X st) := ⟨fun pins s _ _ _ I h => h pins s I⟩
theorem TMs.of {st : Stmt} {t : TS} (h : PS X st t) (q : t D σ H) : TMs X st D σ H := fun pins s I => h.run pins s σ H D I q
theorem TMss.of {st : List Stmt} {t : TS} (h : PSs X st t) (q : t D σ H) : TMss X st D σ H := fun pins s I => h.run pins s σ H D I q

/-- what is wanted behind a statement, by the evaluator -/
def SOut (G : Glob) (X : Cx) (W : WX) (D : Ends) (σ : L2.St) (H : Hp) (O : Addr → Prop) (env : Env) (r : Res Flow) : Prop := match r with
  | .ok .next env' => ∀ σ' H' O', SPost X.K None0 σ H O env σ' H' O' env' → D.nx σ' H'
  | .ok .brk env' => ∀ σ' H' O', SPost X.K None0 σ H O env σ' H' O' env' → D.bk σ' H'
  | .ok .cont env' => ∀ σ' H' O', SPost X.K None0 σ H O env σ' H' O' env' → D.ct σ' H'
  | .ok (.ret v) env' => ∀ σ' H' O' u, SPost X.K None0 σ H O env σ' H' O' env' → VdR X.K H' O' σ' env' v u → (∀ a ∈ tmp v u, H a = none) → D.rt u H'
  | .exc x env' => ∀ cls d σ' H' O', SPost X.K None0 σ H O env σ' H' O' env' → ExcR G X.K H' O' x cls d → W cls d σ' H'
  | .err => False
theorem SOut.behind {r : Res Flow} (e : EnvR X.K H O σ env) (p : SPost X.K None0 σ H O env σ' H' O' env') (h : SOut G X W D σ H O env r) : SOut G X W D σ' H' O' env' r := by
  cases r with
  | ok f env2 =>
    cases f with
    | next => exact fun σ2 H2 O2 q => h σ2 H2 O2 (p.then0 e q)
    | brk => exact fun σ2 H2 O2 q => h σ2 H2 O2 (p.then0 e q)
    | cont => exact fun σ2 H2 O2 q => h σ2 H2 O2 (p.then0 e q)
    | ret v => exact fun σ2 H2 O2 u q vr t => h σ2 H2 O2 u (p.then0 e q) vr fun a ha => p.ext.free (t a ha)
  | exc x env2 => exact fun cls d σ2 H2 O2 q ex => h cls d σ2 H2 O2 (p.then0 e q) ex
  | err => exact h
/-- a statement that first evaluates something -/
theorem SOut.bind {A : Type} {r : Res A} {f : A → Env → Res Flow} (h : SOut G X W D σ H O env (r.bind f)) : SWOut G X W σ H O env r (fun a e => SOut G X W D σ H O env (f a e)) := by
  cases r with
  | ok a e => exact h
  | exc x e => exact h
  | err => exact h
def SS (G : Glob) (X : Cx) (C : Callee) (fns : List Fn) (Wf : Nat) (st : Stmt) (ir : S) : Prop := ∀ (σ : L2.St) (H : Hp) (O : Addr → Prop) (env : Env) (D : Ends) (W : WX), Takes X W → EnvR X.K H O σ env →
  SOut G X W D σ H O env (exS C fns Wf ir env) → TMs X st D σ H
def SSs (G : Glob) (X : Cx) (C : Callee) (fns : List Fn) (Wf : Nat) (st : List Stmt) (ir : List S) : Prop := ∀ (σ : L2.St) (H : Hp) (O : Addr → Prop) (env : Env) (D : Ends) (W : WX), Takes X W → EnvR X.K H O σ env →
  SOut G X W D σ H O env (exSs C fns Wf ir env) → TMss X st D σ H

theorem sss_nil : SSs G X C fns Wf [] [] := by
  intro σ H O env D W tk er h
  refine TMss.of pss_nil ?_
  simp only [exSs] at h
  exact h σ H O (SPost.refl er)
theorem sss_cons {s : Stmt} {ss : List Stmt} {i : S} {is : List S} (h1 : SS G X C fns Wf s i) (h2 : SSs G X C fns Wf ss is) : SSs G X C fns Wf (s :: ss) (i :: is) := by
  intro σ H O env D W tk er h
  refine TMss.of (pss_cons (psM s) (pssM ss)) ?_
  simp only [exSs] at h
  refine h1 σ H O env _ W tk er ?_
  cases q : exS C fns Wf i env with
  | err => rw [q] at h; exact h
  | exc x e => rw [q] at h; exact h
  | ok f e =>
    rw [q] at h
    cases f with
    | next => exact fun σ1 H1 O1 p1 => h2 σ1 H1 O1 e D W tk p1.er (SOut.behind er p1 h)
    | brk => exact h
    | cont => exact h
    | ret v => exact h
theorem ss_pass {pos : Pos} : SS G X C fns Wf (.Pass pos) .pass := by
  intro σ H O env D W tk er h
  simp only [exS] at h
  exact TMs.of ps_pass (h σ H O (SPost.refl er))
theorem ss_brk {pos : Pos} : SS G X C fns Wf (.Break pos) .brk := by
  intro σ H O env D W tk er h
  simp only [exS] at h
  exact TMs.of ps_break (h σ H O (SPost.refl er))
theorem ss_cont {pos : Pos} : SS G X C fns Wf (.Continue pos) .cont := by
  intro σ H O env D W tk er h
  simp only [exS] at h
  exact TMs.of ps_continue (h σ H O (SPost.refl er))
theorem ss_doc {x j pos pos'} : SS G X C fns Wf (.Expr (.Constant (.str x) j pos) pos') .pass := by
  intro σ H O env D W tk er h
  simp only [exS] at h
  exact TMs.of ps_doc (h σ H O (SPost.refl er))
theorem ss_never {st : Stmt} : SS G X C fns Wf st .never := by
  intro σ H O env D W tk er h
  simp only [exS] at h
  exact h.elim
theorem ss_expr {e : Expr} {ie : E} {pos : Pos} (hs : swapsWith e none pos.line X.env = pure false) (he : SE G X C fns e ie) : SS G X C fns Wf (.Expr e pos) (.expr ie) := by
  intro σ H O env D W tk er h
  refine TMs.of (ps_expr (peM e) hs) ?_
  simp only [exS] at h
  exact he σ H O env _ W tk er (SWOut.w h.bind fun v e1 _ k u H1 O1 p1 => k σ H1 O1 p1.p.s)
theorem ss_ret {e : Expr} {ie : E} {pos : Pos} (he : SE G X C fns e ie) : SS G X C fns Wf (.Return (some e) pos) (.ret (some ie)) := by
  intro σ H O env D W tk er h
  refine TMs.of (ps_ret (peM e)) ?_
  simp only [exS] at h
  exact he σ H O env _ W tk er (SWOut.w h.bind fun v e1 _ k u H1 O1 p1 => k σ H1 O1 u p1.p.s p1.vr p1.t)
theorem ss_retN {pos : Pos} : SS G X C fns Wf (.Return none pos) (.ret none) := by
  intro σ H O env D W tk er h
  refine TMs.of ps_retN ?_
  simp only [exS] at h
  exact h σ H O .non (SPost.refl er) rfl (fun a ha => by rw [tmp_fz] at ha; exact nomatch ha)
/-- a test's outcome -/
theorem boolV_s {v : Vd} {f : Bool → Env → Res Flow} (h : SOut G X W D σ H O env ((boolV v env').bind f)) : ∃ b, v = .fz (.bl b) ∧ SOut G X W D σ H O env (f b env') := by
  cases v with
  | fz d => cases d <;> first | exact ⟨_, rfl, h⟩ | exact (show False from h).elim
  | fr d => exact (show False from h).elim
  | bw d => exact (show False from h).elim
theorem test_out {c : E} {f : Bool → Env → Res Flow} (h : SOut G X W D σ H O env ((evE C fns c env).bind fun x env => (boolV x env).bind f)) : SWOut G X W σ H O env (evB C fns c env) (fun b e => SOut G X W D σ H O env (f b e)) := by
  unfold evB
  cases q : evE C fns c env with
  | err => rw [q] at h; exact h
  | exc x e => rw [q] at h; exact h
  | ok v e =>
    rw [q] at h
    obtain ⟨b, rfl, k⟩ := boolV_s h
    exact k
theorem ss_ite {c : Expr} {a b : List Stmt} {ic : E} {ia ib : List S} {pos : Pos} (hc : ST G X C fns c ic) (ha : SSs G X C fns Wf a ia) (hb : SSs G X C fns Wf b ib) : SS G X C fns Wf (.If c a b pos) (.ite ic ia ib) := by
  intro σ H O env D W tk er h
  refine TMs.of (ps_if (ptM c) (pssM a) (pssM b)) ?_
  simp only [exS] at h
  refine hc σ H O env _ W tk er (SWOut.w (test_out h) fun k e1 _ q H1 O1 p1 => ?_)
  cases k with
  | true =>
    simp only [if_true] at q ⊢
    exact ha σ H1 O1 e1 D W tk p1.er (SOut.behind er p1.s q)
  | false =>
    simp only [Bool.false_eq_true, if_false] at q ⊢
    exact hb σ H1 O1 e1 D W tk p1.er (SOut.behind er p1.s q)
theorem ss_whl {c : Expr} {body : List Stmt} {ic : E} {ib : List S} {pos : Pos} (hp : PassesOwn (model X.prog X.w) X.A X.env X.xe) (hc : ST G X C fns c ic) (hb : SSs G X C fns Wf body ib) : SS G X C fns Wf (.While c body [] pos) (.whl ic ib) := by
  intro σ H O env D W tk er h
  refine TMs.of (ps_while hp (ptM c) (pssM body)) ?_
  simp only [exS] at h
  refine ⟨fun m σ1 H1 => ∃ O1 env1, SPost X.K None0 σ H O env σ1 H1 O1 env1 ∧ SOut G X W D σ H O env (whlL (fun env => (evE C fns ic env).bind fun x env => boolV x env) (exSs C fns Wf ib) m env1), ⟨Wf, O, env, SPost.refl er, h⟩, ?_⟩
  rintro m σ1 H1 ⟨O1, env1, p1, h1⟩
  cases m with
  | zero => exact (show False from h1).elim
  | succ m =>
    have h1 := SOut.bind h1
    have h1 : SWOut G X W σ H O env (evB C fns ic env1) _ := h1
    refine hc σ1 H1 O1 env1 _ W tk p1.er (SWOut.w (SWOut.behind er p1 h1 fun _ _ _ z => z) fun k e2 _ q H2 O2 p2 => ?_)
    have p12 := p1.then0 er p2.s
    cases k with
    | true =>
      simp only [if_true] at q ⊢
      refine ⟨fun σ3 H3 => ∃ O3 env3, SPost X.K None0 σ H O env σ3 H3 O3 env3 ∧ SOut G X W D σ H O env (whlL (fun env => (evE C fns ic env).bind fun x env => boolV x env) (exSs C fns Wf ib) m env3), fun σ3 H3 z => ⟨m, Nat.lt_succ_self _, z⟩, ?_⟩
      refine hb σ1 H2 O2 e2 _ W tk p2.er ?_
      cases qb : exSs C fns Wf ib e2 with
      | err => rw [qb] at q; exact (show False from q).elim
      | exc x e =>
        rw [qb] at q
        exact fun cls d σ3 H3 O3 p3 ex => q cls d σ3 H3 O3 (p12.then0 er p3) ex
      | ok f e =>
        rw [qb] at q
        cases f with
        | next => exact fun σ3 H3 O3 p3 => ⟨O3, e, p12.then0 er p3, q⟩
        | cont => exact fun σ3 H3 O3 p3 => ⟨O3, e, p12.then0 er p3, q⟩
        | brk => exact fun σ3 H3 O3 p3 => q σ3 H3 O3 (p12.then0 er p3)
        | ret v => exact fun σ3 H3 O3 u p3 vr t => q σ3 H3 O3 u (p12.then0 er p3) vr fun a ha => p12.ext.free (t a ha)
    | false =>
      simp only [Bool.false_eq_true, if_false] at q ⊢
      exact q σ1 H2 O2 p12
theorem ss_for {tg iter : Expr} {body : List Stmt} {t : Tg} {it : It} {ib : List S} {pos : Pos} (hp : PassesOwn (model X.prog X.w) X.A X.env X.xe) (hc : X.calm = true) (hi : SI G X C fns tg iter it) (hg : SG G X C fns tg t) (hb : SSs G X C fns Wf body ib)
    (hs : ∀ x, foldedSetIterable iter X.env x = pure x) : SS G X C fns Wf (.For tg iter body [] pos) (.for t it ib) := by
  intro σ H O env D W tk er h
  refine TMs.of (ps_for hp hc (piM tg iter) (pgM tg) (pssM body) hs) ?_
  simp only [exS] at h
  refine hi σ H O env _ W tk er (SWOut.w h.bind fun ds env1 _ h1 J H1 O1 p1 src => ?_)
  have er1 := p1.er
  let Pv : Nat → L2.St → Hp → Prop := fun i σ2 H2 => ∃ O2 env2, SPost X.K None0 σ H1 O1 env1 σ2 H2 O2 env2 ∧ SOut G X W D σ H O env (forL (asT C fns t) (exSs C fns Wf ib) (ds.drop i) env2)
  refine ⟨fun i m σ2 H2 => m = ds.length - i ∧ i ≤ ds.length ∧ Pv i σ2 H2, ⟨ds.length, by omega, Nat.zero_le _, O1, env1, SPost.refl er1, by rw [List.drop_zero]; exact h1⟩, ?_⟩
  rintro i m σ2 H2 ⟨rfl, hi', O2, env2, p2, h2⟩
  have f2 := p2.fz er1
  have p02 := p1.s.then0 er p2
  by_cases hlt : i < ds.length
  · refine .inr ⟨src.goes i H2 O2 f2 hlt, Pv (i + 1), fun σ3 H3 z => ⟨ds.length - (i + 1), by omega, rfl, hlt, z⟩, fun x H3 hy => ?_⟩
    obtain ⟨hk, hrep⟩ := src.yields i ds[i] H2 O2 x H3 f2 p2.er.dom (by simp [hlt]) hy
    have pg := (Post.grow p2.er hk).s
    have p3 := p2.then0 er1 pg
    have p03 := p02.then0 er pg
    rw [List.drop_eq_getElem_cons hlt] at h2
    simp only [forL] at h2
    have h2 := SOut.bind h2
    refine hg σ2 H3 O2 env2 x ds[i] _ W tk pg.er hrep (SWOut.behind er p03 h2 fun _ env4 _ h4 σ4 H4 O4 p4 _ => ?_)
    have p34 := p3.then0 er1 p4
    have p04 := p03.then0 er p4
    refine hb σ4 H4 O4 env4 _ W tk p4.er ?_
    cases qb : exSs C fns Wf ib env4 with
    | err => rw [qb] at h4; exact (show False from h4).elim
    | exc y e =>
      rw [qb] at h4
      exact fun cls d σ5 H5 O5 p5 ex => h4 cls d σ5 H5 O5 (p04.then0 er p5) ex
    | ok f e =>
      rw [qb] at h4
      cases f with
      | next => exact fun σ5 H5 O5 p5 => ⟨O5, e, p34.then0 er1 p5, h4⟩
      | cont => exact fun σ5 H5 O5 p5 => ⟨O5, e, p34.then0 er1 p5, h4⟩
      | brk => exact fun σ5 H5 O5 p5 => h4 σ5 H5 O5 (p04.then0 er p5)
      | ret v => exact fun σ5 H5 O5 u p5 vr t => h4 σ5 H5 O5 u (p04.then0 er p5) vr fun a ha => p04.ext.free (t a ha)
  · have ei : i = ds.length := by omega
    subst ei
    rw [List.drop_length] at h2
    exact .inl ⟨src.stops H2 O2 f2, h2 σ2 H2 O2 p02⟩

/-! ### assignments -/
theorem asg_name {i : Nat} {r : Vd} {v : V} {f : Unit → Env → Res Flow} (er : EnvR X.K H O σ env) (p1 : RPost X.K σ H O env H1 O1 env1 r v) (h : SOut G X W D σ H O env ((asg C fns (.nm i) r env1).bind f)) :
    ∃ O2 env2, SPost X.K None0 σ H O env (σ.set i (some v)) H1 O2 env2 ∧ SOut G X W D σ H O env (f () env2) := by
  have frozen : ∀ {d : PB.D} {env2 : Env}, takeD r env1 = some (d, env2) → SOut G X W D σ H O env ((asT C fns (.nm i) d env2).bind f) → ∃ O2 env2, SPost X.K None0 σ H O env (σ.set i (some v)) H1 O2 env2 ∧ SOut G X W D σ H O env (f () env2) := fun {d env2} ht h => by
    obtain ⟨O2, p2, hr⟩ := take_post er p1 ht
    simp only [asT] at h
    cases q : setV env2 i (.val d) with
    | none => rw [q] at h; exact (show False from h).elim
    | some env3 =>
      rw [q] at h
      exact ⟨O2, env3, p2.s.then0 er (SPost.setVal p2.er hr q), h⟩
  cases r with
  | fr d =>
    simp only [asg] at h
    cases q : setV env1 i (.own d) with
    | none => rw [q] at h; exact (show False from h).elim
    | some env3 =>
      rw [q] at h
      obtain ⟨p, e1, hO, hR, hS⟩ := p1.vr
      subst e1
      have sp := p1.p.s.trans er (SPost.setOwn p1.p.er hO hR hS q)
      refine ⟨O1, env3, sp.clean er fun a z => z.elim (fun z => z.elim) fun z => ?_, h⟩
      rw [z]
      exact p1.t p (by simp [tmp])
  | fz d =>
    refine frozen (d := d) (env2 := env1) rfl ?_
    simp only [asg, takeR, takeD, optE, Res.bind] at h ⊢
    exact h
  | bw j =>
    simp only [asg, takeR] at h
    cases q : takeD (.bw j) env1 with
    | none => rw [q] at h; exact (show False from h).elim
    | some pr =>
      obtain ⟨d, env2⟩ := pr
      rw [q] at h
      exact frozen q h
theorem ss_set {x : Str} {i : Nat} {e : Expr} {ie : E} {p pos : Pos} (hN : X.N.Nodup) (hi : X.N[i]? = some x) (hx : Loc X.env.scope x) (hf : X.fn x = true ∨ X.env.scope.names.lookup x = some .local) (hs : swapsWith e (some (.Name x p)) pos.line X.env = pure false)
    (he : SE G X C fns e ie) : SS G X C fns Wf (.Assign [.Name x p] e pos) (.asg (.nm i) ie) := by
  intro σ H O env D W tk er h
  refine TMs.of (ps_set hN hi hx (peM e) hs hf) ?_
  simp only [exS] at h
  refine he σ H O env _ W tk er (SWOut.w h.bind fun r env1 _ k v H1 O1 p1 => ?_)
  obtain ⟨O2, env2, sp, k2⟩ := asg_name er p1 k
  exact k2 _ _ O2 sp
theorem ss_setLc {x : Str} {i : Nat} {elt tg iter : Expr} {ifs : List Expr} {scope : Scope} {ie : E} {t : Tg} {it : It} {c : Option E} {own : List (Str × Nat)} {p pos cpos : Pos} (hc : X.calm = true) (hN : X.N.Nodup) (hi : X.N[i]? = some x) (hx : X.env.scope.names.lookup x = some .local)
    (hsw : swapsWith (.ListComp elt [⟨tg, iter, ifs, 0⟩] scope cpos) (some (.Name x p)) pos.line X.env = pure true) (hI : SI G X C fns tg iter it) (hp : t.plain = true) (ok : BlkOk X.N X.env.scope scope own) (hsl : own.map (·.2) = t.slots)
    (hb : BlkS G X C fns scope tg ifs elt t c ie) (hs : ∀ x, foldedSetIterable iter X.env x = pure x) : SS G X C fns Wf (.Assign [.Name x p] (.ListComp elt [⟨tg, iter, ifs, 0⟩] scope cpos) pos) (.asg (.nm i) (.comp ie t it c)) := by
  intro σ H O env D W tk er h
  refine TMs.of (ps_setLc (own := own) hc hN hi hx hsw (piM tg iter) ok (g := gB X scope tg) (tt := tB0 X scope ifs) (te := eB X scope elt) ?_ ?_ ?_ hs) ?_
  · exact fun s H Cc cl fp => ⟨fun pins s' _ _ v u _ I r h => h s H Cc cl fp pins s' u I r⟩
  · exact fun s H Cc cl fp => ⟨fun pins s' _ _ _ I h => h s H Cc cl fp pins s' I⟩
  · exact fun s H Cc cl fp => ⟨fun pins s' _ _ _ I h => h s H Cc cl fp pins s' I⟩
  · simp only [exS] at h
    show tLc _ _ _ _ (own.map (·.2)) σ H _
    rw [hsl]
    refine comp_run hI hp hb tk er (SWOut.w h.bind fun r env1 _ k v H1 O1 p1 => ?_)
    obtain ⟨O2, env2, sp, k2⟩ := asg_name er p1 k
    exact k2 _ _ O2 sp
theorem ss_aug {x : Str} {i : Nat} {op : Operator} {e : Expr} {ie : E} {p pos : Pos} (hN : X.N.Nodup) (hi : X.N[i]? = some x) (hx : Loc X.env.scope x) (hf : X.fn x = true ∨ X.env.scope.names.lookup x = some .local) (he : SE G X C fns e ie) :
    SS G X C fns Wf (.AugAssign (.Name x p) op e pos) (.aug i op ie) := by
  intro σ H O env D W tk er h
  simp only [exS] at h
  cases q : env[i]? with
  | none => rw [q] at h; exact (show False from h).elim
  | some s =>
    rw [q] at h
    match s, q, h with
    | .val (.int a), q, h =>
      simp only at h
      obtain ⟨u, hu, ru⟩ := er.val i _ q
      have ru : u = V.int a := ru
      subst ru
      have key : ∀ f : Int → Int → Int, (∀ b, (if op = .Add then a + b else a - b) = f a b) → (op = .Add ∨ op = .Sub) → PIp X op (ipI f) → TMs X (.AugAssign (.Name x p) op e pos) D σ H := fun f hfe ho hp => by
        rw [if_pos ho] at h
        refine TMs.of (ps_aug hN hi hx (peM e) hp hf) ⟨_, hu, ?_⟩
        refine he σ H O env _ W tk er (SWOut.w h.bind fun r env1 _ k v H1 O1 p1 => ?_)
        match r, k, p1 with
        | .fz (.int b), k, p1 =>
          have vb : v = V.int b := p1.vr
          subst vb
          simp only [hfe] at k
          cases q2 : setV env1 i (.val (.int (f a b))) with
          | none => rw [q2] at k; exact (show False from k).elim
          | some env2 =>
            rw [q2] at k
            exact ⟨a, b, rfl, rfl, k _ _ _ (p1.p.s.then0 er (SPost.setVal p1.p.er (show Rep X.K H1 O1 (.int (f a b)) (V.int (f a b)) from rfl) q2))⟩
      by_cases ho : op = .Add
      · subst ho
        exact key (fun a b => a + b) (fun b => if_pos rfl) (.inl rfl) ip_add
      · by_cases ho2 : op = .Sub
        · subst ho2
          exact key (fun a b => a - b) (fun b => if_neg (by decide)) (.inr rfl) ip_sub
        · rw [if_neg (fun z => z.elim ho ho2)] at h
          exact (show False from h).elim
def Tg.isNm : Tg → Bool
  | .nm _ => true
  | _ => false
theorem ss_asg {tg e : Expr} {t : Tg} {ie : E} {pos : Pos} (hn : t.isNm = false) (hs : swapsWithSole [tg] e pos.line X.env = pure false) (hw : swappedStores [tg] e X.env = pure none) (h1 : (assignEach [tg] X.env).map (·.2) = [assign tg X.env])
    (he : SE G X C fns e ie) (hg : SG G X C fns tg t) : SS G X C fns Wf (.Assign [tg] e pos) (.asg t ie) := by
  intro σ H O env D W tk er h
  refine TMs.of (ps_asg (peM e) (pgM tg) hs hw h1) ?_
  simp only [exS] at h
  refine he σ H O env _ W tk er (SWOut.w h.bind fun r env1 _ k v H1 O1 p1 => ?_)
  have ea : asg C fns t r env1 = (takeR r env1).bind fun d env => asT C fns t d env := by
    cases t with
    | nm i => cases hn
    | tp ts => rfl
    | sub i k => rfl
    | att i f => rfl
  rw [ea] at k
  unfold takeR at k
  cases q : takeD r env1 with
  | none => rw [q] at k; exact (show False from k).elim
  | some pr =>
    obtain ⟨d, env2⟩ := pr
    rw [q] at k
    obtain ⟨O2, p2, hr⟩ := take_post er p1 q
    have k : SOut G X W D σ H O env ((asT C fns t d env2).bind fun _ env => .ok .next env) := k
    exact hg σ H1 O2 env2 v d _ W tk p2.er hr (SWOut.behind er p2.s k.bind fun _ env3 _ k3 σ3 H3 O3 p3 _ => k3 σ3 H3 O3 (p2.s.then0 er p3))

/-! ### xs.append(e), xs.extend(e) -/
theorem ss_app {x : Str} {i : Nat} {e : Expr} {ie : E} {p ap cp pos : Pos} (hN : X.N[i]? = some x) (hv : Vis X.env.scope x) (h1 : (x == ("__debug__" : Str)) = false) (h2 : (x == ("__classdict__" : Str)) = false) (hline : (ap.endLine == cp.line) = true)
    (hs : starEach [e] X.env = [(false, eval e X.env)]) (he : SE G X C fns e ie) : SS G X C fns Wf (.Expr (.Call (.Attribute (.Name x p) "append" ap) [e] [] cp) pos) (.app i ie) := by
  intro σ H O env D W tk er h
  have sa : SA G X C fns [e] [ie] := sa_cons (by rw [hs]; rfl) he sa_nil
  refine TMs.of (ps_expr (pe_bm (X := X) PySem.F.plainAttrs_list PySem.F.slot_list_append PySem.F.type_list_append mt_append (pe_var hN hv h1 h2) (paM [e]) rfl (by rw [hs]; rfl) hline (by rw [hs]; rfl) rfl) rfl) ?_
  simp only [exS] at h
  cases q0 : ownD env i with
  | none => rw [q0] at h; exact (show False from h).elim
  | some c0 =>
    rw [q0] at h
    match c0, q0, h with
    | .lst l0, q0, h =>
      obtain ⟨a, ha, hO, xs0, hxs0, _⟩ := er.own i _ (ownD_some q0)
      refine ⟨_, ha, .inl ⟨rfl, xs0, SqL.of hxs0⟩, ?_⟩
      refine sa σ H O env _ W tk er ?_
      simp only [evEs]
      simp only at h
      cases qe : evE C fns ie env with
      | err => rw [qe] at h; exact (show False from h).elim
      | exc y e1 =>
        rw [qe] at h
        exact fun cls d H2 O2 xp => h cls d σ H2 O2 xp.p.s xp.x
      | ok r env1 =>
        rw [qe] at h
        intro vs H1 O1 ps1
        match vs, ps1 with
        | [], ps1 => exact ps1.vr.elim
        | _ :: _ :: _, ps1 => exact ps1.vr.2.elim
        | [v], ps1 =>
          have p1 : RPost X.K σ H O env H1 O1 env1 r v := ⟨ps1.p, ps1.vr.1, fun a ha => ps1.t a (List.mem_append_left _ ha)⟩
          simp only [Res.bind] at h
          unfold takeR at h
          cases qt : takeD r env1 with
          | none => rw [qt] at h; exact (show False from h).elim
          | some pr =>
            obtain ⟨d, env2⟩ := pr
            rw [qt] at h
            simp only [optE] at h
            obtain ⟨O2, p2, hr⟩ := take_post er p1 qt
            cases qo : ownD env2 i with
            | none => rw [qo] at h; exact (show False from h).elim
            | some c =>
              rw [qo] at h
              match c, qo, h with
              | .lst l, qo, h =>
                simp only at h
                split at h
                · rename_i hz
                  obtain ⟨a', ha', hO', xs, hxs, hrs⟩ := p2.er.own i _ (ownD_some qo)
                  rw [ha] at ha'
                  cases ha'
                  cases qp : putOwn env2 i (.lst (l ++ [d])) with
                  | none => rw [qp] at h; exact (show False from h).elim
                  | some env3 =>
                    rw [qp] at h
                    refine ⟨a, xs, v, rfl, rfl, hxs, by rw [← hrs.length]; exact hz, ?_⟩
                    refine h σ _ O2 (p2.s.then0 er (SPost.put p2.er (ownD_some qo) ha (fun H3 O3 f q => ?_) qp))
                    exact ⟨_, q, (hrs.append (.cons hr .nil)).step f⟩
                · exact (show False from h).elim
theorem itemsV_some {r : Vd} {v : V} {m : List PB.D} {i : Nat} {a : Addr} {l : PB.D} (er : EnvR X.K H O σ env) (hi : env[i]? = some (.own l) ∨ env[i]? = some (.ref l)) (ha : σ[i]? = some (some (.ref a))) (hv : VdR X.K H O σ env r v) (h : itemsV i r env = some m) : ∃ b zs, v = .ref b ∧ H b = some (.lst zs) ∧ Reps X.K H O m zs := by
  cases r with
  | fz d => cases h
  | fr d =>
    cases d <;> first | cases h | skip
    obtain ⟨b, e1, _, _, zs, hz, hr⟩ := hv
    exact ⟨b, zs, e1, hz, hr⟩
  | bw j =>
    have h : (if j = i then none else (match ownD env j with
      | some (.lst m) => some m
      | _ => none)) = some m := h
    split at h
    · cases h
    · cases q : ownD env j with
      | none => rw [q] at h; cases h
      | some c =>
        rw [q] at h
        cases c <;> first | cases h | skip
        obtain ⟨b, hb, _, zs, hz, hr⟩ := er.own j _ (ownD_some q)
        have hv : σ[j]? = some (some v) := hv
        rw [hv] at hb
        cases hb
        exact ⟨b, zs, rfl, hz, hr⟩
theorem ss_ext {x : Str} {i : Nat} {e : Expr} {ie : E} {p ap cp pos : Pos} (hN : X.N[i]? = some x) (hv : Vis X.env.scope x) (h1 : (x == ("__debug__" : Str)) = false) (h2 : (x == ("__classdict__" : Str)) = false) (hline : (ap.endLine == cp.line) = true)
    (hs : starEach [e] X.env = [(false, eval e X.env)]) (he : SE G X C fns e ie) : SS G X C fns Wf (.Expr (.Call (.Attribute (.Name x p) "extend" ap) [e] [] cp) pos) (.ext i ie) := by
  intro σ H O env D W tk er h
  have sa : SA G X C fns [e] [ie] := sa_cons (by rw [hs]; rfl) he sa_nil
  refine TMs.of (ps_expr (pe_bm (X := X) PySem.F.plainAttrs_list PySem.F.slot_list_extend PySem.F.type_list_extend mt_extend (pe_var hN hv h1 h2) (paM [e]) rfl (by rw [hs]; rfl) hline (by rw [hs]; rfl) rfl) rfl) ?_
  simp only [exS] at h
  cases q0 : ownD env i with
  | none => rw [q0] at h; exact (show False from h).elim
  | some c0 =>
    rw [q0] at h
    match c0, q0, h with
    | .lst l0, q0, h =>
      obtain ⟨a, ha, hO, xs0, hxs0, _⟩ := er.own i _ (ownD_some q0)
      refine ⟨_, ha, .inl ⟨rfl, xs0, SqL.of hxs0⟩, ?_⟩
      refine sa σ H O env _ W tk er ?_
      simp only [evEs]
      simp only at h
      cases qe : evE C fns ie env with
      | err => rw [qe] at h; exact (show False from h).elim
      | exc y e1 =>
        rw [qe] at h
        exact fun cls d H2 O2 xp => h cls d σ H2 O2 xp.p.s xp.x
      | ok r env1 =>
        rw [qe] at h
        intro vs H1 O1 ps1
        match vs, ps1 with
        | [], ps1 => exact ps1.vr.elim
        | _ :: _ :: _, ps1 => exact ps1.vr.2.elim
        | [v], ps1 =>
          have p1 : RPost X.K σ H O env H1 O1 env1 r v := ⟨ps1.p, ps1.vr.1, fun a ha => ps1.t a (List.mem_append_left _ ha)⟩
          simp only [Res.bind] at h
          cases qo : ownD env1 i with
          | none => rw [qo] at h; exact (show False from h).elim
          | some c =>
            rw [qo] at h
            match c, qo, h with
            | .lst l, qo, h =>
              cases qm : itemsV i r env1 with
              | none => rw [qm] at h; exact (show False from h).elim
              | some m =>
                rw [qm] at h
                simp only at h
                split at h
                · rename_i hz
                  obtain ⟨a', ha', hO', xs, hxs, hrs⟩ := p1.p.er.own i _ (ownD_some qo)
                  rw [ha] at ha'
                  cases ha'
                  obtain ⟨b, zs, e1, hb, hrz⟩ := itemsV_some p1.p.er (ownD_some qo) ha p1.vr qm
                  subst e1
                  cases qp : putOwn env1 i (.lst (l ++ m)) with
                  | none => rw [qp] at h; exact (show False from h).elim
                  | some env3 =>
                    rw [qp] at h
                    refine ⟨a, b, xs, zs, rfl, rfl, hxs, hb, by rw [← hrs.length, ← hrz.length]; exact hz, ?_⟩
                    refine h σ _ O1 (p1.p.s.then0 er (SPost.put p1.p.er (ownD_some qo) ha (fun H3 O3 f q => ?_) qp))
                    exact ⟨_, q, (hrs.append hrz).step f⟩
                · exact (show False from h).elim
end
end PB

/-! PBo -/
/-! PB, part O: a, b = x, y. -/
namespace PB
open PySem L2
variable [Tb]
section
variable {G : Glob} {X : Cx} {C : Callee} {fns : List Fn} {Wf : Nat} {σ σ' : L2.St} {H H' H1 : Hp} {O O' O1 : Addr → Prop} {env env' env1 env2 : Env} {W : WX} {D : Ends}
def noBw : List Vd → Bool
  | [] => true
  | .bw _ :: _ => false
  | _ :: vs => noBw vs
theorem settle_run : ∀ {rs rs' : List Vd} {vs : List V} {O : Addr → Prop} {env env' : Env}, EnvR X.K H O σ env → VdRs X.K H O σ env rs vs → settle rs env = some (rs', env') →
    ∃ O', Post X.K σ None0 H O env H O' env' ∧ VdRs X.K H O' σ env' rs' vs ∧ tmps rs' vs = tmps rs vs ∧ noBw rs' = true
  | [], rs', vs, O, env, env', e, h, q => by
    have q : some ([], env) = some (rs', env') := q
    cases q
    exact ⟨O, Post.refl e, h, rfl, rfl⟩
  | _ :: _, _, [], _, _, _, _, h, _ => h.elim
  | .bw i :: rs, rs', v :: vs, O, env, env', e, h, q => by
    have q : (match takeD (.bw i) env with
      | some (d, env) => (match settle rs env with
        | some (vs, env) => some (.fz d :: vs, env)
        | none => none)
      | none => none) = some (rs', env') := q
    cases q1 : takeD (.bw i) env with
    | none => rw [q1] at q; cases q
    | some pr =>
      obtain ⟨d, env1⟩ := pr
      rw [q1] at q
      simp only at q
      cases q2 : settle rs env1 with
      | none => rw [q2] at q; cases q
      | some pr =>
        obtain ⟨rs1, env2⟩ := pr
        rw [q2] at q
        cases q
        obtain ⟨O1, p1, r1⟩ := Post.take e h.1 q1
        have p1' : Post X.K σ None0 H O env H O1 env1 := p1.clean e fun a z => by rw [tmp_bw] at z; exact nomatch z
        obtain ⟨O2, p2, v2, t2, n2⟩ := settle_run p1'.er (p1'.vds e h.2 fun a _ z => z) q2
        refine ⟨O2, p1'.then0 p2, ⟨p2.rep p1'.er r1, v2⟩, ?_, n2⟩
        show tmp (.fz d) v ++ tmps rs1 vs = tmp (.bw i) v ++ tmps rs vs
        rw [tmp_fz, tmp_bw, t2]
  | .fz d :: rs, rs', v :: vs, O, env, env', e, h, q => by
    have q : (match settle rs env with
      | some (vs, env) => some (Vd.fz d :: vs, env)
      | none => none) = some (rs', env') := q
    cases q2 : settle rs env with
    | none => rw [q2] at q; cases q
    | some pr =>
      obtain ⟨rs1, env2⟩ := pr
      rw [q2] at q
      cases q
      obtain ⟨O2, p2, v2, t2, n2⟩ := settle_run e h.2 q2
      refine ⟨O2, p2, ⟨p2.rep e h.1, v2⟩, ?_, n2⟩
      show tmp (.fz d) v ++ tmps rs1 vs = tmp (.fz d) v ++ tmps rs vs
      rw [t2]
  | .fr d :: rs, rs', v :: vs, O, env, env', e, h, q => by
    have q : (match settle rs env with
      | some (vs, env) => some (Vd.fr d :: vs, env)
      | none => none) = some (rs', env') := q
    cases q2 : settle rs env with
    | none => rw [q2] at q; cases q
    | some pr =>
      obtain ⟨rs1, env2⟩ := pr
      rw [q2] at q
      cases q
      obtain ⟨O2, p2, v2, t2, n2⟩ := settle_run e h.2 q2
      refine ⟨O2, p2, ⟨p2.vd e h.1 fun a _ z => z, v2⟩, ?_, n2⟩
      show tmp (.fr d) v ++ tmps rs1 vs = tmp (.fr d) v ++ tmps rs vs
      rw [t2]
def setAll (σ : L2.St) : List Nat → List V → L2.St
  | i :: is, v :: vs => setAll (σ.set i (some v)) is vs
  | _, _ => σ
theorem SPost.vds {K : PySem.W.Frag} {T : Addr → Prop} (p : SPost K T σ H O env σ' H' O' env') (e : EnvR K H O σ env) : ∀ {rs : List Vd} {vs : List V}, noBw rs = true → VdRs K H O σ env rs vs → (∀ a ∈ tmps rs vs, ¬ T a) → VdRs K H' O' σ' env' rs vs
  | [], [], _, _, _ => trivial
  | [], _ :: _, _, h, _ => h
  | _ :: _, [], _, h, _ => h.elim
  | .bw _ :: _, _ :: _, nb, _, _ => nomatch nb
  | .fz d :: rs, v :: vs, nb, h, ht => ⟨Rep.step (p.fz e) _ _ h.1, SPost.vds p e (rs := rs) nb h.2 fun a ha => ht a (List.mem_append_right _ ha)⟩
  | .fr d :: rs, v :: vs, nb, h, ht => by
    refine ⟨?_, SPost.vds p e (rs := rs) nb h.2 fun a ha => ht a (List.mem_append_right _ ha)⟩
    obtain ⟨a, e1, e2, e3, e4⟩ := h.1
    subst e1
    have ta : ¬ T a := ht a (List.mem_append_left _ (by simp [tmp]))
    refine ⟨a, rfl, p.hold a e2 e3 ta, fun z => ?_, Shp.step (p.fz e) (fun o q t => p.ext.keep a o q (fun z => z.elim e3 ta) t) e4⟩
    rcases p.root a z with z | z | z
    · exact e3 z
    · exact ta z
    · obtain ⟨o, q, _⟩ := e.dom a e2
      rw [z] at q; cases q
theorem SPost.congr {K : PySem.W.Frag} {T T' : Addr → Prop} (p : SPost K T σ H O env σ' H' O' env') (h : ∀ a, T a ↔ T' a) : SPost K T' σ H O env σ' H' O' env' := by
  have : T = T' := funext fun a => propext (h a)
  rw [← this]; exact p
theorem parL_run : ∀ {is : List Nat} {rs : List Vd} {vs : List V} {σ : L2.St} {env env' : Env}, EnvR X.K H O σ env → noBw rs = true → VdRs X.K H O σ env rs vs → (tmps rs vs).Nodup → parL is rs env = some env' →
    SPost X.K (fun a => a ∈ tmps rs vs) σ H O env (setAll σ is vs) H O env'
  | [], [], [], σ, env, env', e, _, _, _, q => by
    have q : some env = some env' := q
    cases q
    exact (SPost.refl e).congr fun a => ⟨fun z => z.elim, fun z => nomatch z⟩
  | [], [], _ :: _, _, _, _, _, _, h, _, _ => h.elim
  | [], _ :: _, _, _, _, _, _, _, _, _, q => nomatch q
  | _ :: _, [], _, _, _, _, _, _, _, _, q => nomatch q
  | _ :: _, _ :: _, [], _, _, _, _, _, h, _, _ => h.elim
  | _ :: _, .bw _ :: _, _ :: _, _, _, _, _, nb, _, _, _ => nomatch nb
  | i :: is, .fr d :: rs, v :: vs, σ, env, env', e, nb, h, nd, q => by
    have q : (match setV env i (.own d) with
      | some env => parL is rs env
      | none => none) = some env' := q
    cases q1 : setV env i (.own d) with
    | none => rw [q1] at q; cases q
    | some env1 =>
      rw [q1] at q
      obtain ⟨a, e1, e2, e3, e4⟩ := h.1
      subst e1
      have nd : (a :: tmps rs vs).Nodup := nd
      have nd' := List.nodup_cons.mp nd
      have p1 := SPost.setOwn e e2 e3 e4 q1
      have h2 := p1.vds e (rs := rs) nb h.2 fun b hb z => nd'.1 (by rw [← z]; exact hb)
      have p2 := parL_run p1.er (rs := rs) nb h2 nd'.2 q
      exact (p1.trans e p2).congr fun b => (List.mem_cons (a := b) (b := a) (l := tmps rs vs)).symm
  | i :: is, .fz d :: rs, v :: vs, σ, env, env', e, nb, h, nd, q => by
    have q : (match setV env i (.val d) with
      | some env => parL is rs env
      | none => none) = some env' := q
    cases q1 : setV env i (.val d) with
    | none => rw [q1] at q; cases q
    | some env1 =>
      rw [q1] at q
      have et : tmps (.fz d :: rs) (v :: vs) = tmps rs vs := by show tmp (.fz d) v ++ _ = _; rw [tmp_fz]; rfl
      rw [et] at nd ⊢
      have p1 := SPost.setVal e h.1 q1
      have h2 := p1.vds e (rs := rs) nb h.2 fun b _ z => z
      have p2 := parL_run p1.er (rs := rs) nb h2 nd q
      exact (p1.trans e p2).congr fun b => ⟨fun z => z.elim (fun z => z.elim) id, .inr⟩
theorem par_post {is : List Nat} {rs : List Vd} {vs : List V} {f : Unit → Env → Res Flow} (er : EnvR X.K H O σ env) (p1 : RPosts X.K σ H O env H1 O1 env1 rs vs) (h : SOut G X W D σ H O env ((par is rs env1).bind f)) :
    ∃ O2 env2, SPost X.K None0 σ H O env (setAll σ is vs) H1 O2 env2 ∧ SOut G X W D σ H O env (f () env2) := by
  unfold par at h
  cases q1 : settle rs env1 with
  | none => rw [q1] at h; exact (show False from h).elim
  | some pr =>
    obtain ⟨rs', env2⟩ := pr
    rw [q1] at h
    simp only at h
    cases q2 : parL is rs' env2 with
    | none => rw [q2] at h; exact (show False from h).elim
    | some env3 =>
      rw [q2] at h
      obtain ⟨O2, p2, v2, t2, n2⟩ := settle_run p1.p.er p1.vr q1
      have p3 := parL_run p2.er n2 v2 (by rw [t2]; exact p1.nd) q2
      have p12 := p1.p.then0 p2
      refine ⟨O2, env3, (p12.s.trans er p3).clean er fun a z => z.elim (fun z => z.elim) fun z => ?_, h⟩
      rw [t2] at z
      exact p1.t a z
theorem ss_par2 {i j : Nat} {x y : Str} {a b : Expr} {ia ib : E} {px py pt : Pos} {kt k2 : Nat} {pt2 pos : Pos} (hc : X.calm = true) (hN : X.N.Nodup) (hi : X.N[i]? = some x) (hj : X.N[j]? = some y) (hij : i ≠ j) (hx : X.env.scope.names.lookup x = some .local) (hy : X.env.scope.names.lookup y = some .local)
    (hw : swappedStores [.Tuple [.Name x px, .Name y py] kt pt] (.Tuple [a, b] k2 pt2) X.env = pure (some [x, y])) (hs : swapsWithSole [.Tuple [.Name x px, .Name y py] kt pt] (.Tuple [a, b] k2 pt2) pos.line X.env = pure false)
    (ha : SA G X C fns [a, b] [ia, ib]) : SS G X C fns Wf (.Assign [.Tuple [.Name x px, .Name y py] kt pt] (.Tuple [a, b] k2 pt2) pos) (.par [i, j] [ia, ib]) := by
  intro σ H O env D W tk er h
  refine TMs.of (ps_par hc hN hi hj hij hx hy (paM [a, b]) hw hs) ?_
  simp only [exS] at h
  refine ha σ H O env _ W tk er (SWOut.w h.bind fun rs env1 _ k vs H1 O1 p1 => ?_)
  obtain ⟨O2, env2, sp, k2⟩ := par_post er p1 k
  have hl := p1.vr.length
  have hl2 : rs.length = 2 := evEs_len (by assumption)
  match vs, hl, sp with
  | [v, u], _, sp => exact ⟨v, u, rfl, k2 _ _ O2 sp⟩
  | [], hl, _ => rw [hl2] at hl; simp at hl
  | [_], hl, _ => rw [hl2] at hl; simp at hl
  | _ :: _ :: _ :: _, hl, _ => rw [hl2] at hl; simp at hl
theorem ss_par3 {i j l : Nat} {x y z : Str} {a b c : Expr} {ia ib ic : E} {px py pz pt : Pos} {kt k2 : Nat} {pt2 pos : Pos} (hc : X.calm = true) (hN : X.N.Nodup) (hi : X.N[i]? = some x) (hj : X.N[j]? = some y) (hl' : X.N[l]? = some z) (hij : i ≠ j) (hil : i ≠ l) (hjl : j ≠ l) (hx : X.env.scope.names.lookup x = some .local) (hy : X.env.scope.names.lookup y = some .local) (hz : X.env.scope.names.lookup z = some .local)
    (hw : swappedStores [.Tuple [.Name x px, .Name y py, .Name z pz] kt pt] (.Tuple [a, b, c] k2 pt2) X.env = pure (some [x, y, z])) (hs : swapsWithSole [.Tuple [.Name x px, .Name y py, .Name z pz] kt pt] (.Tuple [a, b, c] k2 pt2) pos.line X.env = pure false)
    (ha : SA G X C fns [a, b, c] [ia, ib, ic]) : SS G X C fns Wf (.Assign [.Tuple [.Name x px, .Name y py, .Name z pz] kt pt] (.Tuple [a, b, c] k2 pt2) pos) (.par [i, j, l] [ia, ib, ic]) := by
  intro σ H O env D W tk er h
  refine TMs.of (ps_par3 hc hN hi hj hl' hij hil hjl hx hy hz (paM [a, b, c]) hw hs) ?_
  simp only [exS] at h
  refine ha σ H O env _ W tk er (SWOut.w h.bind fun rs env1 _ k vs H1 O1 p1 => ?_)
  obtain ⟨O2, env2, sp, k2⟩ := par_post er p1 k
  have hl := p1.vr.length
  have hl2 : rs.length = 3 := evEs_len (by assumption)
  match vs, hl, sp with
  | [v, u, t], _, sp => exact ⟨v, u, t, rfl, k2 _ _ O2 sp⟩
  | [], hl, _ => rw [hl2] at hl; simp at hl
  | [_], hl, _ => rw [hl2] at hl; simp at hl
  | [_, _], hl, _ => rw [hl2] at hl; simp at hl
  | _ :: _ :: _ :: _ :: _, hl, _ => rw [hl2] at hl; simp at hl
end
end PB

/-! PCa -/
/-! PC, part A: attributes; dicts with tuple keys. -/
namespace PB
open PySem L2
variable [Tb]
section
variable {G : Glob} {X : Cx} {C : Callee} {fns : List Fn} {Wf : Nat} {σ σ' σ2 σ3 : L2.St} {H H' H1 H2 H3 : Hp} {O O' O1 O2 O3 : Addr → Prop} {env env' env1 env2 env3 : Env} {W : WX} {D : Ends}

/-! ### zip of three -/
theorem zip3D_length : ∀ (l m n : List PB.D), (zip3D l m n).length = min l.length (min m.length n.length)
  | [], m, n => by simp [zip3D]
  | _ :: _, [], n => by simp [zip3D]
  | _ :: _, _ :: _, [] => by simp [zip3D]
  | _ :: l, _ :: m, _ :: n => by
    show (zip3D l m n).length + 1 = min (l.length + 1) (min (m.length + 1) (n.length + 1))
    rw [zip3D_length l m n]
    omega
theorem zip3D_get : ∀ (l m n : List PB.D) (i : Nat) (d : PB.D), (zip3D l m n)[i]? = some d → ∃ x y z, l[i]? = some x ∧ m[i]? = some y ∧ n[i]? = some z ∧ d = .tup [x, y, z]
  | [], m, n, _, _, h => by simp [zip3D] at h
  | _ :: _, [], n, _, _, h => by simp [zip3D] at h
  | _ :: _, _ :: _, [], _, _, h => by simp [zip3D] at h
  | a :: l, b :: m, c :: n, 0, d, h => by
    have h : some (D.tup [a, b, c]) = some d := h
    cases h
    exact ⟨a, b, c, rfl, rfl, rfl, rfl⟩
  | a :: l, b :: m, c :: n, i + 1, d, h => by
    have h : (zip3D l m n)[i]? = some d := h
    obtain ⟨x, y, z, h1, h2, h3, h4⟩ := zip3D_get l m n i d h
    exact ⟨x, y, z, by simpa using h1, by simpa using h2, by simpa using h3, h4⟩
theorem src_zip3 {K : PySem.W.Frag} {l m n : List PB.D} {a b c : Addr} (h : Rep K H O (.tup l) (.ref a)) (h' : Rep K H O (.tup m) (.ref b)) (h'' : Rep K H O (.tup n) (.ref c)) : ∃ xs ys zs, SqT K H a xs ∧ SqT K H b ys ∧ SqT K H c zs ∧ Src K H O (PZ.Itz3 K a b c) (zip3D l m n) := by
  obtain ⟨xs, st⟩ := tup_at h
  obtain ⟨ys, st'⟩ := tup_at h'
  obtain ⟨zs, st''⟩ := tup_at h''
  refine ⟨xs, ys, zs, (st H O Fz.refl).1, (st' H O Fz.refl).1, (st'' H O Fz.refl).1, fun i H2 O2 f hi => ?_, fun H2 O2 f => ?_, fun i d H2 O2 x H3 f dm e y => ?_⟩
  · obtain ⟨s, r⟩ := st H2 O2 f
    obtain ⟨s', r'⟩ := st' H2 O2 f
    obtain ⟨s'', r''⟩ := st'' H2 O2 f
    rw [zip3D_length, r.length, r'.length, r''.length] at hi
    have h1 : i < xs.length := by omega
    have h2 : i < ys.length := by omega
    have h3 : i < zs.length := by omega
    exact ⟨xs, ys, zs, xs[i], ys[i], zs[i], s, s', s'', by simp [h1], by simp [h2], by simp [h3]⟩
  · obtain ⟨s, r⟩ := st H2 O2 f
    obtain ⟨s', r'⟩ := st' H2 O2 f
    obtain ⟨s'', r''⟩ := st'' H2 O2 f
    rw [zip3D_length, r.length, r'.length, r''.length]
    exact ⟨xs, ys, zs, s, s', s'', by omega, by omega, by omega, by omega⟩
  · obtain ⟨s, r⟩ := st H2 O2 f
    obtain ⟨s', r'⟩ := st' H2 O2 f
    obtain ⟨s'', r''⟩ := st'' H2 O2 f
    obtain ⟨T, vx, vy, vz, e1, hT, e2, e3, e4, e5⟩ := y
    obtain ⟨dx, dy, dz, h1, h2, h3, h8⟩ := zip3D_get l m n i d e
    obtain ⟨x2, h4, h5⟩ := r.get h1
    obtain ⟨y2, h6, h7⟩ := r'.get h2
    obtain ⟨z2, h9, h10⟩ := r''.get h3
    rw [e3 xs s] at h4
    rw [e4 ys s'] at h6
    rw [e5 zs s''] at h9
    cases h4
    cases h6
    cases h9
    subst e1 e2 h8
    have hk := grow_new (o := .tup [vx, vy, vz]) hT
    have fg := fz_grow (O := O2) hk
    refine ⟨hk, ⟨T, [vx, vy, vz], rfl, fun z => ?_, upd_same, .cons (Rep.step fg _ _ h5) (.cons (Rep.step fg _ _ h7) (.cons (Rep.step fg _ _ h10) .nil))⟩⟩
    obtain ⟨o, q, _⟩ := dm T z
    rw [hT] at q; cases q
theorem si_zip3 {e e2 e3 : Expr} {elts : List Expr} {kk : Nat} {tpos : Pos} {ie ie2 ie3 : E} {p pos : Pos} (hg : Gl X "zip") (hm : X.mg "zip" = none) (hs : starEach [e, e2, e3] X.env = (false, eval e X.env) :: starEach [e2, e3] X.env) (hs2 : starEach [e2, e3] X.env = (false, eval e2 X.env) :: starEach [e3] X.env) (hs3 : starEach [e3] X.env = (false, eval e3 X.env) :: starEach [] X.env)
    (he : SE G X C fns e ie) (he2 : SE G X C fns e2 ie2) (he3 : SE G X C fns e3 ie3) : SI G X C fns (.Tuple elts kk tpos) (.Call (.Name "zip" p) [e, e2, e3] [] pos) (.zip3 ie ie2 ie3) := by
  intro σ H O env R W tk er h
  refine TMi.of (PZ.pi_zip3 hg hm (paM [e, e2, e3]) hs (by rw [hs2, hs3]; rfl)) ?_
  have sa : SA G X C fns [e, e2, e3] [ie, ie2, ie3] := sa_cons hs he (sa_cons hs2 he2 (sa_cons hs3 he3 sa_nil))
  have h : WOut G X W σ H O env ((evEs C fns [ie, ie2, ie3] env).bind fun xs env => zip3V xs env) (fun ds env' => ∀ J H' O', Post X.K σ None0 H O env H' O' env' → Src X.K H' O' J ds → R J H') := by
    simp only [evIt] at h
    simp only [evEs]
    cases q : evE C fns ie env with
    | err => rw [q] at h; exact h
    | exc x e1 => rw [q] at h; exact h
    | ok x e1 =>
      rw [q] at h
      simp only [Res.bind] at h ⊢
      cases q2 : evE C fns ie2 e1 with
      | err => rw [q2] at h; exact h
      | exc x e1 => rw [q2] at h; exact h
      | ok y e2 =>
        rw [q2] at h
        simp only at h ⊢
        cases q3 : evE C fns ie3 e2 with
        | err => rw [q3] at h; exact h
        | exc x e1 => rw [q3] at h; exact h
        | ok z e3 =>
          rw [q3] at h
          exact h
  refine sa σ H O env _ W tk er (Out.mono h.bind (fun rs env1 _ g vs H1 O1 p1 => ?_) fun _ _ k => k)
  unfold zip3V at g
  cases q : takeDs rs env1 with
  | none => rw [q] at g; exact (show False from g).elim
  | some pr =>
    obtain ⟨ds, env2⟩ := pr
    rw [q] at g
    obtain ⟨O2, p2, hr⟩ := takes_post er p1 q
    match ds, g, hr with
    | [.tup l, .tup m, .tup n], g, hr =>
      obtain ⟨vx, r1, e1, hx, hr⟩ := hr
      obtain ⟨vy, r2, e2, hy, hr⟩ := hr
      obtain ⟨vz, r3, e3, hz, hrr⟩ := hr
      have hnil : r3 = [] := hrr
      subst e1 e2 e3
      subst hnil
      obtain ⟨a, rfl⟩ := rep_ref (.inr hx)
      obtain ⟨b, rfl⟩ := rep_ref (.inr hy)
      obtain ⟨c, rfl⟩ := rep_ref (.inr hz)
      obtain ⟨xs, ys, zs, s1, s2, s3, sr⟩ := src_zip3 hx hy hz
      exact ⟨a, b, c, xs, ys, zs, rfl, s1, s2, s3, g _ _ _ p2 sr⟩

/-! ### attributes -/
theorem Repf.lookup {K : PySem.W.Frag} {f : Str} : ∀ {l : List (Str × PB.D)} {xs : List (Str × V)}, Repf K H O l xs → (l.lookup f = none → xs.lookup f = none) ∧ ∀ d, l.lookup f = some d → (∃ v, xs.lookup f = some v ∧ Rep K H O d v) ∧ (f, d) ∈ l
  | [], xs, h => by
    have h : xs = [] := h
    subst h
    exact ⟨fun _ => rfl, fun d e => nomatch e⟩
  | (k, d) :: ds, xs, h => by
    obtain ⟨x, r, e, h1, h2⟩ : ∃ x r, xs = (k, x) :: r ∧ Rep K H O d x ∧ Repf K H O ds r := h
    subst e
    obtain ⟨i1, i2⟩ := Repf.lookup (f := f) h2
    rw [List.lookup_cons, List.lookup_cons]
    cases q : f == k with
    | true =>
      have z : f = k := by simpa using q
      subst z
      exact ⟨fun z => (nomatch z), fun d' e => by cases e; exact ⟨⟨x, rfl, h1⟩, List.mem_cons_self⟩⟩
    | false => exact ⟨i1, fun d' e => ⟨(i2 d' e).1, List.mem_cons_of_mem _ (i2 d' e).2⟩⟩
theorem Repf.length {K : PySem.W.Frag} : ∀ {l : List (Str × PB.D)} {xs : List (Str × V)}, Repf K H O l xs → l.length = xs.length
  | [], xs, h => by
    have h : xs = [] := h
    rw [h]; rfl
  | (k, d) :: ds, xs, h => by
    obtain ⟨x, r, e, _, h2⟩ : ∃ x r, xs = (k, x) :: r ∧ Rep K H O d x ∧ Repf K H O ds r := h
    rw [e, List.length_cons, List.length_cons, Repf.length h2]
theorem Repf.put {K : PySem.W.Frag} {f : Str} {d : PB.D} {v : V} (hv : Rep K H O d v) : ∀ {l : List (Str × PB.D)} {xs : List (Str × V)}, Repf K H O l xs → Repf K H O (fput f d l) (putF f v xs)
  | [], xs, h => by
    have h : xs = [] := h
    subst h
    exact ⟨v, [], rfl, hv, rfl⟩
  | (k, d') :: ds, xs, h => by
    obtain ⟨x, r, e, h1, h2⟩ : ∃ x r, xs = (k, x) :: r ∧ Rep K H O d' x ∧ Repf K H O ds r := h
    subst e
    unfold fput putF
    by_cases z : k = f
    · rw [if_pos z, if_pos z]
      exact ⟨v, r, rfl, hv, h2⟩
    · rw [if_neg z, if_neg z]
      exact ⟨x, _, rfl, h1, Repf.put hv h2⟩
theorem fput_mem {f : Str} {d : PB.D} : ∀ {l : List (Str × PB.D)} {p : Str × PB.D}, p ∈ fput f d l → p.1 = f ∨ p ∈ l
  | [], p, h => by
    have h : p ∈ [(f, d)] := h
    rw [List.mem_singleton.mp h]
    exact .inl rfl
  | (k, x) :: r, p, h => by
    unfold fput at h
    by_cases z : k = f
    · rw [if_pos z] at h
      rcases List.mem_cons.mp h with e | e
      · rw [e]; exact .inl z
      · exact .inr (List.mem_cons_of_mem _ e)
    · rw [if_neg z] at h
      rcases List.mem_cons.mp h with e | e
      · rw [e]; exact .inr List.mem_cons_self
      · exact (fput_mem e).imp id fun q => List.mem_cons_of_mem _ q
theorem ObOk.put {K : PySem.W.Frag} {c f : Str} {d : PB.D} {l : List (Str × PB.D)} (h : ObOk K c l) (n : NoAttr K (He.ga K c) f) : ObOk K c (fput f d l) := ⟨h.1, fun p hp => by
  rcases fput_mem hp with e | e
  · rw [e]; exact n
  · exact h.2 p e⟩
/-- o.f, o an object or an error -/
def tFldX (K : PySem.W.Frag) (ta : TE) (f : Str) : TE := fun σ H Q => ta σ H fun x H1 => (∃ a C dx fs v, x = .ref a ∧ H1 a = some (.ins C dx fs) ∧ Cls K C ∧ NoAttr K C f ∧ fs.lookup f = some v ∧ Q v H1) ∨
  ∃ a C dx fs v, x = .ref a ∧ H1 a = some (exv a C dx) ∧ H1 dx = some (.xd fs) ∧ XfC K C ∧ PySem.W.findIn K (.ref C) f = some none ∧ fs.lookup f = some v ∧ Q v H1
theorem exv_at {P : Program} {w : World} {h : Heap} {a C dx : Addr} (hok : HOk P w H h) (he : H a = some (exv a C dx)) : ∃ (oe : Obj) (vs : Array Value), h.get? a = some oe ∧ oe.cls = .ref C ∧ oe.dict = some dx ∧ oe.data = .fields vs := by
  have x : ObjOk P w H h a (.ext fun h => ∃ (oe : Obj) (vs : Array Value), h.get? a = some oe ∧ oe.cls = .ref C ∧ oe.dict = some dx ∧ oe.data = .fields vs) := hok a _ he
  exact x.1
theorem exv_ok {P : Program} {w : World} {h : Heap} {a C dx : Addr} {oe : Obj} {vs : Array Value} (e : h.get? a = some oe) (h1 : oe.cls = .ref C) (h2 : oe.dict = some dx) (h3 : oe.data = .fields vs) : ObjOk P w H h a (exv a C dx) :=
  ⟨⟨oe, vs, e, h1, h2, h3⟩, ⟨oe, e⟩, fun g1 g2 ⟨oe, vs, e, h1, h2, h3⟩ k => ⟨oe, vs, k _ e, h1, h2, h3⟩⟩
theorem pe_fldX {e : Expr} {f : Str} {pos : Pos} {ta : TE} (he : PE X e ta) (hb : attributeBase e f X.env (eval e X.env) = eval e X.env) : PE X (.Attribute e f pos) (tFldX X.K ta f) := by
  refine ⟨fun pins s σ H Q I h => ?_⟩
  refine attr_of hb (thn (he.run pins s σ H _ I h) fun u s1 ⟨x, H1, I1, rx, hh⟩ => ?_)
  rcases hh with ⟨a, C, dx, fs, v, ex, ea, c, n, l, q⟩ | ⟨a, C, dx, fs, v, ex, ea, ed, T, hno, l, q⟩
  · subst ex
    obtain rfl : u = Value.ref a := rx
    exact getattr_ok I1 ea c n l fun u' s2 I2 ru => ⟨v, H1, I2, ru, q⟩
  · subst ex
    obtain rfl : u = Value.ref a := rx
    obtain ⟨oe, vs, ha, z1, z2, hd⟩ := exv_at I1.hok ea
    have hx : ObjOk X.prog X.w H1 s1.heap dx (.xd fs) := I1.hok dx _ ed
    obtain ⟨mA, hns, hr⟩ := hx
    obtain ⟨od, ho, hl⟩ := lookIn_ns hns
    obtain ⟨u, hu, ru⟩ := RelO.some_of (v := v) (o := mA f) (by rw [← l]; exact hr f)
    have J : PySem.W.InstAt s1.heap a oe C (some od) := ⟨ha, z1, by unfold PySem.W.notCls; rw [hd] <;> rfl, by rw [z2]; exact ho⟩
    exact HandSPX.exc_get I1.kIn J T.ga T.gg T.exC (PySem.W.findObj_own T.hdC hno rfl (by rw [hl, hu])) (handed_of ru) ⟨v, H1, I1.tok _, ru, q⟩
theorem se_att {e : Expr} {ie : E} {f : Str} {pos : Pos} (hb : attributeBase e f X.env (eval e X.env) = eval e X.env) (he : SE G X C fns e ie) : SE G X C fns (.Attribute e f pos) (.att ie f) := by
  intro σ H O env Q W tk er h
  refine TM.of (pe_fldX (peM e) hb) ?_
  simp only [evE] at h
  refine he σ H O env _ W tk er (Out.mono h.bind (fun x env1 _ g v H1 O1 p1 => ?_) fun _ _ k => k)
  unfold attV at g
  cases q : nowD env1 x with
  | none => rw [q] at g; exact (show False from g).elim
  | some d =>
    rw [q] at g
    have rd := VdR.now p1.p.er p1.vr q
    cases d with
    | obj c l =>
      simp only at g
      obtain ⟨a, dx, xs, e1, s1, r1, o1⟩ := rd.obj
      cases q2 : l.lookup f with
      | none => rw [q2] at g; exact (show False from g).elim
      | some d =>
        rw [q2] at g
        obtain ⟨⟨w, g1, g2⟩, g3⟩ := (r1.lookup (f := f)).2 d q2
        exact .inl ⟨a, _, dx, xs, w, e1, s1, o1.1, o1.2 _ g3, g1, g w H1 O1 (RPost.more p1.p (RPost.here p1.p.er g2))⟩
    | exc c l =>
      simp only at g
      obtain ⟨a, dx, xs, e1, s1, d1, r1, o1⟩ := rd.exc
      cases q2 : l.lookup f with
      | none => rw [q2] at g; exact (show False from g).elim
      | some d =>
        rw [q2] at g
        obtain ⟨⟨w, g1, g2⟩, g3⟩ := (r1.lookup (f := f)).2 d q2
        exact .inr ⟨a, _, dx, xs, w, e1, s1, d1, o1.1.xf, o1.2 _ g3, g1, g w H1 O1 (RPost.more p1.p (RPost.here p1.p.er g2))⟩
    | _ => exact (show False from g).elim
/-- o.f = .. -/
def gFld (K : PySem.W.Frag) (to : TE) (f : Str) : TG := fun v σ H Q => to σ H fun x H1 => ∃ a C dx fs, x = .ref a ∧ H1 a = some (.ins C dx fs) ∧ Cls K C ∧ NoAttr K C f ∧ fs.length < 1000 ∧ Q σ (upd H1 a (.ins C dx (putF f v fs)))
theorem pg_fld {o : Expr} {f : Str} {to : TE} {pos : Pos} (ho : PE X o to) : PG X (.Attribute o f pos) (gFld X.K to f) := by
  refine ⟨fun pins s σ H v u Q I r h => ?_⟩
  rw [assign_Attribute]
  refine wpAny_bind (wpAny_holding (thn (ho.run pins s σ H _ I h) fun ov s1 ⟨x, H1, I1, r1, a, C, dx, fs, ex, ea, c, n, l, q1⟩ => ?_))
  subst ex
  obtain rfl : ov = Value.ref a := r1
  refine wpAny_bind (wpAny_standAt (wpAny_bind (wpAny_holding (setattr_ok I1 ea c n l r fun s2 I2 => ?_))))
  exact wpAny_release ⟨σ, _, I2, q1⟩
theorem sg_att {x : Str} {i : Nat} {f : Str} {p1 pos : Pos} (hN : X.N[i]? = some x) (hv : Vis X.env.scope x) (h1 : (x == ("__debug__" : Str)) = false) (h2 : (x == ("__classdict__" : Str)) = false)
    (hF : ∀ c, fldOk fns c f = true → NoAttr X.K (He.ga X.K c) f) : SG G X C fns (.Attribute (.Name x p1) f pos) (.att i f) := by
  intro σ H O env v d Q W tk er hr h
  refine TMg.of (pg_fld (pe_var hN hv h1 h2)) ?_
  simp only [asT] at h
  cases q0 : ownD env i with
  | none => rw [q0] at h; exact (show False from h).elim
  | some c0 =>
    rw [q0] at h
    cases c0 with
    | obj c l =>
      simp only at h
      have ho := ownD_some q0
      obtain ⟨p, hp, hO, dx, xs, hs, hx, ob⟩ := er.own i _ ho
      by_cases hc : fldOk fns c f = true ∧ l.length < 1000
      · rw [if_pos hc] at h
        cases q5 : putOwn env i (.obj c (fput f d l)) with
        | none => rw [q5] at h; exact (show False from h).elim
        | some env2 =>
          rw [q5] at h
          have n := hF c hc.1
          refine ⟨_, hp, p, _, dx, xs, rfl, hs, ob.1, n, by rw [← hx.length]; exact hc.2, ?_⟩
          have sp := SPost.put (d := .obj c (fput f d l)) (o := .ins (He.ga X.K c) dx (putF f v xs)) er ho hp (fun H' O' fz hh => ⟨dx, _, hh, (hx.step fz).put (Rep.step fz _ _ hr), ob.put n⟩) q5
          exact h σ _ O sp fun _ _ => rfl
      · rw [if_neg hc] at h; exact (show False from h).elim
    | _ => exact (show False from h).elim

/-! ### {} and d != {} -/
theorem se_dnw {pos : Pos} : SE G X C fns (.Dict [] [] pos) .dnw := by
  intro σ H O env Q W tk er h
  refine TM.of pe_dnewT ?_
  simp only [evE] at h
  intro p hp
  exact h _ _ _ (RPost.fresh er hp fun H' O' f q => ⟨[], q, rfl⟩)
theorem ne_run (hu : X.A.units < cLine) {a : Expr} {ia : E} {Q : VK} {p2 : Pos} (ha : SE G X C fns a ia) (tk : Takes X W) (er : EnvR X.K H O σ env)
    (h : WOut G X W σ H O env (evE C fns (.neE ia) env) (fun r env' => ∀ v H' O', RPost X.K σ H O env H' O' env' r v → Q v H')) :
    tOp (fun x y H Q => ∃ a b kvs, x = .ref a ∧ y = .ref b ∧ Rd H a (.dT kvs) ∧ H b = some (.dT []) ∧ Q (.bl (!kvs.isEmpty)) H) (TM X a) tDNewT σ H Q := by
  simp only [evE] at h
  refine ha σ H O env _ W tk er (Out.mono h.bind (fun x env1 _ g v H1 O1 p1 => ?_) fun _ _ k => k)
  unfold neEV at g
  cases q : nowD env1 x with
  | none => rw [q] at g; exact (show False from g).elim
  | some d =>
    rw [q] at g
    have rd := VdR.now p1.p.er p1.vr q
    cases d with
    | dt l =>
      obtain ⟨b, kvs, e1, s1, r1⟩ := rd.dt
      intro p hp
      have hk := grow_new (o := HO.dT []) hp
      have s2 : Rd (upd H1 p (.dT [])) b (.dT kvs) := by
        rcases s1 with s1 | ⟨o, s1⟩
        · exact .inl (hk _ _ s1)
        · exact .inr ⟨o, hk _ _ s1⟩
      have eb : kvs.isEmpty = l.isEmpty := by
        have := r1.length
        cases l with
        | nil => cases kvs with
          | nil => rfl
          | cons y r => exact nomatch this
        | cons z r => cases kvs with
          | nil => exact nomatch this
          | cons y r => rfl
      refine ⟨b, p, kvs, e1, rfl, s2, upd_same, ?_⟩
      rw [eb]
      exact g _ _ O1 (RPost.more p1.p (RPost.grow p1.p.er hk rfl))
    | _ => exact (show False from g).elim
theorem se_neE (hu : X.A.units < cLine) {a : Expr} {ia : E} {p2 pos : Pos} (ha : SE G X C fns a ia) : SE G X C fns (.Compare a [.NotEq] [.Dict [] [] p2] pos) (.neE ia) := fun σ H O env Q W tk er h =>
  TM.of (pe_cmpR (PZ.op_neE hu) (peM a) pe_dnewT rfl) (ne_run (p2 := p2) hu ha tk er h)
theorem st_neE (hu : X.A.units < cLine) {a : Expr} {ia : E} {p2 pos : Pos} (ha : SE G X C fns a ia) : ST G X C fns (.Compare a [.NotEq] [.Dict [] [] p2] pos) (.neE ia) := fun σ H O env Q W tk er h =>
  TMt.of (pt_cmpR (PZ.op_neE hu) (peM a) pe_dnewT rfl) (ne_run (p2 := p2) hu ha tk er (out_bool h))

/-! ### {k: v} -/
theorem se_dct1 (hu : X.A.units + 1 < cLine) {k v : Expr} {ik iv : E} {pos : Pos} (hk : SE G X C fns k ik) (hv : SE G X C fns v iv) : SE G X C fns (.Dict [some k] [v] pos) (.dct1 ik iv) := by
  intro σ H O env Q W tk er h
  refine TM.of (PZ.pe_disp1T hu (peM k) (peM v)) ?_
  simp only [evE] at h
  intro p hp
  have hg := grow_new (o := HO.dT []) hp
  have p0 := Post.more er hg hp ⟨_, upd_same, pl_dT⟩
  have hpr : ¬ Root σ env p := er.notRoot hp
  refine hk σ _ _ env _ W tk p0.er (WOut.behind p0 h.bind fun x env1 _ g vx H1 O1 p1 => ?_)
  refine hv σ H1 O1 env1 _ W tk p1.p.er (WOut.behind (p0.then0 p1.p) g.bind fun y env2 _ g2 vy H2 O2 p2 => ?_)
  have p12 := p1.p.then0 p2.p
  have e2 : H2 p = some (.dT []) := p12.ext.keep p _ upd_same (fun z => z.elim hpr id) pl_dT.2.1
  have vx2 := p2.p.vd p1.p.er p1.vr fun a _ z => z
  unfold dct1V at g2
  cases q : nowD env2 x with
  | none => rw [q] at g2; exact (show False from g2).elim
  | some d =>
    rw [q] at g2
    have rd := VdR.now p2.p.er vx2 q
    cases d with
    | tup ds =>
      simp only at g2
      obtain ⟨b, zs, e3, s3, r3⟩ := rd.tup
      cases q2 : keysD ds with
      | none => rw [q2] at g2; exact (show False from g2).elim
      | some kk =>
        rw [q2] at g2
        simp only at g2
        have ez := keysD_rep r3 q2
        subst ez
        cases q3 : takeD y env2 with
        | none => rw [q3] at g2; exact (show False from g2).elim
        | some pr =>
          obtain ⟨d, env3⟩ := pr
          rw [q3] at g2
          obtain ⟨O3, p3, r4⟩ := take_post p1.p.er p2 q3
          have p13 := p1.p.then0 p3
          refine ⟨e2, b, kk, e3, s3, ?_⟩
          have hO3 : O3 p := p13.hold p (.inl rfl) hpr id
          have nR3 : ¬ Root σ env3 p := fun z => hpr (p13.root p z)
          have p4 := Post.poke (o := .dT [(kk, vy)]) p3.er hO3 nR3 pl_dT
          have p5 := ((p0.then0 p13).trans p4).clean er fun a z => z.elim (fun z => z.elim) fun z => by rw [z]; exact hp
          refine g2 _ _ O3 ⟨p5, ⟨p, rfl, hO3, nR3, _, upd_same, ?_⟩, fun a ha => ?_⟩
          · exact ⟨vy, [], rfl, p4.rep p3.er r4, rfl⟩
          · have z : a = p := by simpa [tmp] using ha
            rw [z]; exact hp
    | _ => exact (show False from g2).elim

/-! ### d.get(k, x) -/
theorem se_dget (hu : X.A.units + 1 < cLine) {a k d : Expr} {ia ik id' : E} {apos cpos : Pos} (m : M2 X a "get" apos k d cpos) (ha : SE G X C fns a ia) (hk : SE G X C fns k ik) (hd : SE G X C fns d id') : SE G X C fns (.Call (.Attribute a "get" apos) [k, d] [] cpos) (.dget ia ik id') := by
  intro σ H O env Q W tk er h
  refine TM.of (pe_dget2 hu (peM a) (peM k) (peM d) m) ?_
  simp only [evE] at h
  refine ha σ H O env _ W tk er (Out.mono h.bind (fun x env1 _ g vx H1 O1 p1 => ?_) fun _ _ k => k)
  by_cases hD : isDt (nowD env1 x) = true
  · rw [if_pos hD] at g
    obtain ⟨b, e1, isD⟩ : ∃ b, vx = .ref b ∧ IsD H1 b := by
      cases q : nowD env1 x with
      | none => rw [q] at hD; cases hD
      | some d0 =>
        rw [q] at hD
        cases d0 with
        | dt l =>
          obtain ⟨b, kvs, e1, s1, _⟩ := (VdR.now p1.p.er p1.vr q).dt
          exact ⟨b, e1, .inr ⟨kvs, s1⟩⟩
        | _ => cases hD
    refine ⟨b, e1, isD, ?_⟩
    refine hk σ H1 O1 env1 _ W tk p1.p.er (WOut.behind p1.p g.bind fun y env2 _ g2 vy H2 O2 p2 => ?_)
    refine hd σ H2 O2 env2 _ W tk p2.p.er (WOut.behind (p1.p.then0 p2.p) g2.bind fun z env3 _ g3 vz H3 O3 p3 => ?_)
    have p23 := p2.p.then0 p3.p
    have vx3 := p23.vd p1.p.er p1.vr fun a _ z => z
    have vy3 := p3.p.vd p2.p.er p2.vr fun a _ z => z
    unfold dgetV at g3
    cases q1 : nowD env3 x with
    | none => simp only [q1] at g3; exact (show False from g3).elim
    | some d1 =>
      cases d1 with
      | dt l =>
        cases q2 : nowD env3 y with
        | none => simp only [q1, q2] at g3; exact (show False from g3).elim
        | some d2 =>
          cases d2 with
          | tup ds =>
            cases z with
            | fz dd =>
              simp only [q1, q2] at g3
              cases q3 : keysD ds with
              | none => rw [q3] at g3; exact (show False from g3).elim
              | some kk =>
                rw [q3] at g3
                obtain ⟨a2, ov, e2, dg, hs, hv⟩ := dget_t (VdR.now p3.p.er vx3 q1) (VdR.now p3.p.er vy3 q2) q3
                rw [e1] at e2
                cases e2
                refine ⟨ov, dg, ?_⟩
                have rz : Rep X.K H3 O3 dd vz := p3.vr
                refine g3 _ H3 O3 (RPost.more (p1.p.then0 p23) (RPost.here p3.p.er ?_))
                cases q4 : kget l kk with
                | none =>
                  rw [q4] at hs
                  cases ov with
                  | none => exact rz
                  | some w => cases hs
                | some d4 =>
                  obtain ⟨w, ew, rw'⟩ := hv d4 q4
                  rw [ew]
                  exact rw'
            | fr dd => simp only [q1, q2] at g3; exact (show False from g3).elim
            | bw dd => simp only [q1, q2] at g3; exact (show False from g3).elim
          | _ => simp only [q1, q2] at g3; exact (show False from g3).elim
      | _ => simp only [q1] at g3; exact (show False from g3).elim
  · rw [if_neg hD] at g; exact (show False from g).elim

/-! ### sorted(set(xs)), tuples -/
theorem tupsOf_reps {K : PySem.W.Frag} : ∀ {l : List PB.D} {xs : List V} {r : List (List Int)}, Reps K H O l xs → tupsOf l = some r → ∃ ks : List (Addr × List Int), xs = ks.map (fun p => V.ref p.1) ∧ ks.map (·.2) = r ∧ ∀ p ∈ ks, H p.1 = some (.tup (p.2.map V.int))
  | [], xs, r, h, e => by
    have h : xs = [] := h
    have e : some [] = some r := e
    cases e
    exact ⟨[], h, rfl, fun p hp => nomatch hp⟩
  | d :: l, xs, r, h, e => by
    obtain ⟨x, xr, e1, h1, h2⟩ : ∃ x r, xs = x :: r ∧ Rep K H O d x ∧ Reps K H O l r := h
    subst e1
    cases d with
    | tup ds =>
      have e : (match intsOf ds, tupsOf l with
        | some x, some xs => some (x :: xs)
        | _, _ => none) = some r := e
      cases q1 : intsOf ds with
      | none => rw [q1] at e; cases e
      | some ns =>
        cases q2 : tupsOf l with
        | none => rw [q1, q2] at e; cases e
        | some m =>
          rw [q1, q2] at e
          cases e
          obtain ⟨ks, e2, e3, e4⟩ := tupsOf_reps h2 q2
          simp only [Rep] at h1
          obtain ⟨t, ys, rfl, _, ht, hr⟩ := h1
          have ey := hr.ints q1
          subst ey
          refine ⟨(t, ns) :: ks, by rw [e2]; rfl, by rw [← e3]; rfl, fun p hp => ?_⟩
          rcases List.mem_cons.mp hp with z | z
          · rw [z]; exact ht
          · exact e4 p z
    | _ => exact nomatch e
theorem se_sortSetT (hc : X.calm = true) (hu : X.A.units + 64 < cLine) {a : Expr} {ia : E} {p pos p2 pos2 : Pos} (g1 : Gl X "sorted") (m1 : X.mg "sorted" = none) (g2 : Gl X "set") (m2 : X.mg "set" = none) (na : starEach [a] X.env = (false, eval a X.env) :: starEach [] X.env) (ha : SE G X C fns a ia) :
    SE G X C fns (.Call (.Name "sorted" p) [.Call (.Name "set" p2) [a] [] pos2] [] pos) (.blt .sortSetT [ia]) := by
  intro σ H O env Q W tk er h
  refine TM.of (PZ.pe_sortSetT g1 m1 g2 m2 (peM a) hc hu na) ?_
  simp only [evE, evEs] at h
  refine ha σ H O env _ W tk er (Out.mono (Out.bind h.bind) (fun x env1 _ h1 v H1 O1 p1 => ?_) fun _ _ k => k)
  have h2 : WOut G X W σ H O env (bltV .sortSetT [x] env1) (fun r env' => ∀ v H' O', RPost X.K σ H O env H' O' env' r v → Q v H') := h1
  unfold bltV at h2
  cases q1 : nowDs env1 [x] with
  | none => rw [q1] at h2; exact (show False from h2).elim
  | some ds =>
    rw [q1] at h2
    simp only at h2
    have rd : RdRs X.K H1 O1 ds [v] := VdRs.now p1.p.er (rs := [x]) ⟨p1.vr, trivial⟩ q1
    cases q2 : bltD .sortSetT ds with
    | none => rw [q2] at h2; exact (show False from h2).elim
    | some r =>
      rw [q2] at h2
      match ds, q2, rd with
      | [.lst l], q2, rd =>
        have q2 : (match tupsOf l with
          | some r => if evenT r && decide (r.length < 64) then frR (.lst ((uniqT r).map tupI)) else none
          | none => none) = some r := q2
        cases q3 : tupsOf l with
        | none => rw [q3] at q2; cases q2
        | some ns =>
          rw [q3] at q2
          simp only at q2
          split at q2
          · rename_i hl
            simp only [Bool.and_eq_true, decide_eq_true_eq] at hl
            cases some_pair q2
            obtain ⟨b, ys, e1, s1, r1⟩ := rd.1.lst
            obtain ⟨ks, e2, e3, e4⟩ := tupsOf_reps r1 q3
            obtain ⟨d, hd1, hd2⟩ := evenT_len hl.1
            refine ⟨b, ks, d, e1, by rw [← e2]; exact s1, fun p hp => ⟨e4 p hp, hd2 _ (by rw [← e3]; exact List.mem_map.mpr ⟨p, hp, rfl⟩)⟩, hd1, ?_, fun k zs q hz hs nd hm hq => ?_⟩
            · have : ks.length = ns.length := by rw [← e3, List.length_map]
              omega
            · have up : UpT (zs.map k) := srtd_up (d := d) hs (fun y hy => (hz y hy).choose_spec.2.2) nd
              rw [upT_eq (uniqT_up hd2) up fun x => by rw [uniqT_mem, hm x, e3]] at h2
              exact (ResQ.of p1.p.er (r := (true, .lst _)) fun v H3 O3 p3 => h2 v H3 O3 (RPost.more p1.p p3)).lst hq (tups_reps p1.p.er.dom fun y hy => by
                obtain ⟨b, z1, z2, _⟩ := hz y hy
                exact ⟨b, z1, z2⟩)
          · cases q2
end
end PB

/-! PCb -/
/-! PC, part B: methods, new objects. -/
namespace PB
open PySem L2
variable [Tb]
section
variable {G : Glob} {X : Cx} {C : Callee} {fns : List Fn} {Wf : Nat} {σ σ' σ2 σ3 : L2.St} {H H' H1 H2 H3 : Hp} {O O' O1 O2 O3 : Addr → Prop} {env env' env1 env2 env3 : Env} {W : WX} {D : Ends}
theorem pick_ok {m c : Str} : ∀ {fs : List Nat} {f : Nat}, pick fns m c fs = some f → ∃ fn, fns[f]? = some fn ∧ fn.cls = some c ∧ fn.name = m
  | [], f, h => nomatch h
  | g :: r, f, h => by
    unfold pick at h
    cases q : fns[g]? with
    | none => rw [q] at h; exact pick_ok h
    | some fn =>
      rw [q] at h
      simp only at h
      by_cases z : fn.cls = some c ∧ fn.name = m
      · rw [if_pos z] at h
        cases h
        exact ⟨fn, q, z⟩
      · rw [if_neg z] at h
        exact pick_ok h
/-- a result, and more results behind it -/
theorem RPosts.cons {x : Vd} {v : V} {xs : List Vd} {vs : List V} (p1 : RPost X.K σ H O env H1 O1 env1 x v) (p2 : RPosts X.K σ H1 O1 env1 H2 O2 env2 xs vs) : RPosts X.K σ H O env H2 O2 env2 (x :: xs) (v :: vs) := by
  have er1 := p1.p.er
  refine ⟨p1.p.then0 p2.p, ⟨p2.p.vd er1 p1.vr fun a _ z => z, p2.vr⟩, ?_, fun a ha => ?_⟩
  · refine List.nodup_append.mpr ⟨?_, p2.nd, fun a ha b hb z => ?_⟩
    · cases x with
      | fr d => cases v <;> simp [tmp]
      | fz d => rw [tmp_fz]; exact List.nodup_nil
      | bw d => rw [tmp_bw]; exact List.nodup_nil
    · obtain ⟨o, q, _⟩ := er1.dom a (VdR.tmpO p1.vr a ha)
      rw [z, p2.t b hb] at q
      cases q
  · rcases List.mem_append.mp ha with z | z
    · exact p1.t a z
    · exact p1.p.ext.free (p2.t a z)
/-- what the context keeps of methods -/
structure MethF (G : Glob) (X : Cx) (C : Callee) (fns : List Fn) (k : Nat) (f : Nat) (fn : Fn) (c : Str) (fa : Addr) (fd : FuncData) : Prop where
  go : FnG X.prog X.w X.K X.mg X.base (CX X.prog X.w) k fa fd fn.ps (spF G X.K C f fn)
  at_ : Meth X.K (He.ga X.K c) fn.name fa
  bind : Binds X.K fd fn.ps []
  ml : fn.modes.length = fn.ps.length
/-- the object of a method call, and its method -/
def MQ (G : Glob) (X : Cx) (C : Callee) (fns : List Fn) (k : Nat) (m : Str) (K1 : Nat → Fn → VK) : VK := fun v H1 => ∃ a c dx xs f fn fa fd, v = .ref a ∧ H1 a = some (.ins (He.ga X.K c) dx xs) ∧ Cls X.K (He.ga X.K c) ∧ xs.lookup m = none ∧ fns[f]? = some fn ∧ fn.name = m ∧ MethF G X C fns k f fn c fa fd ∧ K1 f fn v H1
theorem meth_obj {k : Nat} {m : Str} {fs : List Nat} {o : Expr} {io : E} {irs : List E} {Q : VK} {K1 : Nat → Fn → VK} (hM : ∀ f fn c, fns[f]? = some fn → fn.cls = some c → ∃ fa fd, MethF G X C fns k f fn c fa fd) (ho : SE G X C fns o io) (tk : Takes X W) (er : EnvR X.K H O σ env)
    (h : WOut G X W σ H O env (evE C fns (.meth m fs io irs) env) (fun r env' => ∀ v H' O', RPost X.K σ H O env H' O' env' r v → Q v H'))
    (hK : ∀ f fn x env1 v H1 O1, fns[f]? = some fn → fn.modes.length = fn.ps.length → RPost X.K σ H O env H1 O1 env1 x v → WOut G X W σ H O env ((evEs C fns irs env1).bind fun xs env => callV C fns f (x :: xs) env) (fun r env' => ∀ v H' O', RPost X.K σ H O env H' O' env' r v → Q v H') → K1 f fn v H1) :
    TM X o σ H (MQ G X C fns k m K1) := by
  simp only [evE] at h
  refine ho σ H O env _ W tk er (Out.mono h.bind (fun x env1 _ g v H1 O1 p1 => ?_) fun _ _ k => k)
  unfold methIx at g
  cases q : nowD env1 x with
  | none => rw [q] at g; exact (show False from g).elim
  | some d =>
    rw [q] at g
    cases d with
    | obj c l =>
      simp only at g
      obtain ⟨a, dx, xs, e1, s1, r1, o1⟩ := (VdR.now p1.p.er p1.vr q).obj
      cases q2 : l.lookup m with
      | some d => rw [q2] at g; exact (show False from g).elim
      | none =>
        rw [q2] at g
        simp only at g
        cases q3 : pick fns m c fs with
        | none => rw [q3] at g; exact (show False from g).elim
        | some f =>
          rw [q3] at g
          simp only at g
          obtain ⟨fn, hf, hc, hn⟩ := pick_ok q3
          obtain ⟨fa, fd, M⟩ := hM f fn c hf hc
          exact ⟨a, c, dx, xs, f, fn, fa, fd, e1, s1, o1.1, (r1.lookup (f := m)).1 q2, hf, hn, M, hK f fn x env1 v H1 O1 hf M.ml p1 g⟩
    | _ => exact (show False from g).elim
theorem se_meth {k : Nat} {m : Str} {fs : List Nat} {o : Expr} {io : E} {e : Expr} {es : List Expr} {irs : List E} {apos pos : Pos} {pl : Sem Bool} (hg : X.A.guards = some []) (hr : Room (k + 2) X.A)
    (hM : ∀ f fn c, fns[f]? = some fn → fn.cls = some c → ∃ fa fd, MethF G X C fns k f fn c fa fd)
    (hst : starEach (e :: es) X.env = (false, eval e X.env) :: starEach es X.env) (hpl : (backTo pos (starEach es X.env)).any (·.1) = false)
    (ht : eval (.Call (.Attribute o m apos) (e :: es) [] pos) X.env = (do
      let ov ← eval o X.env
      standAt apos.atName
      let (f, first) ← holding [ov] (getMethod ov m pl)
      callWith pos f first (backTo pos (starEach (e :: es) X.env)) (backToKw pos (keywordEach [] X.env))))
    (ho : SE G X C fns o io) (ha : SA G X C fns (e :: es) irs) : SE G X C fns (.Call (.Attribute o m apos) (e :: es) [] pos) (.meth m fs io irs) := by
  intro σ H O env Q W tk er h
  intro pins s I
  have to := meth_obj (K1 := fun f fn v H1 => TMa X (e :: es) σ H1 (fun vs H2 => spF G X.K C f fn (v :: vs) H2 Q (fun cls d H' => W cls d σ H'))) hM ho tk er h (fun f fn x env1 v H1 O1 hf ml p1 g => ha σ H1 O1 env1 _ W tk p1.p.er (WOut.behind p1.p g.bind fun rs env2 _ g2 vs H2 O2 p2 => call_sp hf ml er (RPosts.cons p1 p2) g2))
  refine PySem.W.methodCall_KW (pl := pl) (thn (to pins s I) fun u s1 ⟨x, H1, I1, rx, a, c, dx, xs, f, fn, fa, fd, ex, ea, cl, l, hf, hn, M, q⟩ => ?_) ht
  subst ex
  obtain rfl : u = Value.ref a := rx
  have mt := M.at_
  rw [hn] at mt
  refine getmeth_ok I1 ea cl mt l ?_
  refine PySem.W.callWith_K (first := [.ref a]) (h₀ := X.base) I.ok.mod.kin mt.kp (thn (q pos pins s1 I1) fun us s2 ⟨vs, H2, I2, r, q2⟩ => ⟨I2.kIn, ?_⟩) hst hpl
  have r2 : Vals (V.ref a :: vs) (Value.ref a :: us) := .cons rfl r
  have hl : ((Value.ref a :: us) ++ []).length = fn.ps.length := by rw [List.append_nil, ← r2.length]; exact M.go.many _ _ _ _ q2
  have hb1 := M.bind s2 (Value.ref a :: us) I2.kIn hl
  rw [List.append_nil] at hb1
  exact call_any (α := Unit) (run_fnG M.go hg hr tk I2 hb1 r2 q2)
theorem se_meth0 {k : Nat} {m : Str} {fs : List Nat} {o : Expr} {io : E} {apos pos : Pos} {pl : Sem Bool} (hg : X.A.guards = some []) (hr : Room (k + 2) X.A)
    (hM : ∀ f fn c, fns[f]? = some fn → fn.cls = some c → ∃ fa fd, MethF G X C fns k f fn c fa fd)
    (ht : eval (.Call (.Attribute o m apos) [] [] pos) X.env = (do
      let ov ← eval o X.env
      standAt apos.atName
      let (f, first) ← holding [ov] (getMethod ov m pl)
      callWith pos f first (backTo pos (starEach [] X.env)) (backToKw pos (keywordEach [] X.env))))
    (ho : SE G X C fns o io) : SE G X C fns (.Call (.Attribute o m apos) [] [] pos) (.meth m fs io []) := by
  intro σ H O env Q W tk er h
  intro pins s I
  have to := meth_obj (K1 := fun f fn v H1 => spF G X.K C f fn [v] H1 Q (fun cls d H' => W cls d σ H')) hM ho tk er h (fun f fn x env1 v H1 O1 hf ml p1 g => by
    simp only [evEs] at g
    exact call_sp hf ml er (RPosts.cons (xs := []) (vs := []) p1 ⟨Post.refl p1.p.er, trivial, List.nodup_nil, fun a ha => nomatch ha⟩) g)
  refine PySem.W.methodCall_KW (pl := pl) (thn (to pins s I) fun u s1 ⟨x, H1, I1, rx, a, c, dx, xs, f, fn, fa, fd, ex, ea, cl, l, hf, hn, M, q⟩ => ?_) ht
  subst ex
  obtain rfl : u = Value.ref a := rx
  have mt := M.at_
  rw [hn] at mt
  refine getmeth_ok I1 ea cl mt l ?_
  have r2 : Vals [V.ref a] [Value.ref a] := .cons rfl .nil
  have hl : ([Value.ref a] ++ []).length = fn.ps.length := by rw [List.append_nil, ← r2.length]; exact M.go.many _ _ _ _ q
  have hb1 := M.bind s1 [Value.ref a] I1.kIn hl
  rw [List.append_nil] at hb1
  exact PySem.W.callWith_K0 (first := [.ref a]) I1.kIn mt.kp (call_any (α := Unit) (run_fnG M.go hg hr tk I1 hb1 r2 q))

/-! ### a new object -/
theorem run_makeG {pins : List (Addr × Obj)} {s : Shared} {k : Nat} {Ca f : Addr} {fd : FuncData} {ps : List Str} {sp : Sp} {us : List Value} {vs : List V} {Q : VK} (M : Mk X.K Ca f) (F : FnG X.prog X.w X.K X.mg X.base (CX X.prog X.w) k f fd ps sp) (hg : X.A.guards = some []) (hr : ∀ (C : Addr) (us : List Value), Room (k + 2) (X.A.under (.builtin "type.__call__" ⟨.ref C :: us, []⟩))) (hb : Binds X.K fd ps []) (tk : Takes X W)
    (I : Inv X pins σ H s) (r : Vals vs us)
    (h : ∀ x dx, H x = none → H dx = none → dx ≠ x → sp (.ref x :: vs) (upd (upd H dx (.own x)) x (.ins Ca dx [])) (fun v H2 => v = .non ∧ Q (.ref x) H2) (fun cls d H' => W cls d σ H')) :
    wpAny (model X.prog X.w) X.A (call (.ref Ca) us) (EP X pins σ Q) X.xe s := by
  have hq := h (s.heap.objs.size + 1) s.heap.objs.size (I.hok.fresh (Nat.le_succ _)) (I.hok.fresh (Nat.le_refl _)) (Nat.ne_of_lt (Nat.lt_succ_self _))
  have I2 := Inv.made (C := Ca) I
  have r2 : Vals (V.ref (s.heap.objs.size + 1) :: vs) (Value.ref (s.heap.objs.size + 1) :: us) := .cons rfl r
  have hl : ((Value.ref (s.heap.objs.size + 1) :: us) ++ []).length = ps.length := by
    rw [List.append_nil, ← r2.length]
    exact F.many _ _ _ _ hq
  have hb1 := hb _ (Value.ref (s.heap.objs.size + 1) :: us) I2.kIn hl
  rw [List.append_nil] at hb1
  refine wpAny_call (make_map (f := f) I.kIn M.makes M.init (beq_iff_eq.mp M.fn) (codeAny_mono (F.go _ X.stack _ _ ⟨Value.ref (s.heap.objs.size + 1) :: us, []⟩ (Value.ref (s.heap.objs.size + 1) :: us) _ _ _ hg (hr Ca us)
    (I2.env0.make Ca us []) hb1 r2 hq) fun r s' hq' => ?_))
  cases r with
  | error e => exact tk e s' (XE.of_call I2 (fun _ _ _ z => z) hq')
  | ok fl =>
    cases fl with
    | ret u =>
      obtain ⟨v, H', I3, rv, ev, q3⟩ := I2.after hq'
      subst ev
      exact ⟨rv, ⟨V.ref (s.heap.objs.size + 1), H', I3, rfl, q3⟩⟩
    | next => exact False.elim hq'
    | brk => exact False.elim hq'
    | cont => exact False.elim hq'
theorem new_sp {f : Nat} {fn : Fn} {c : Str} {rs : List Vd} {vs : List V} {Q : VK} (hf : fns[f]? = some fn) (hc : fn.cls = some c) (hml : fn.modes.length = fn.ps.length) (cl : Cls X.K (He.ga X.K c)) (er : EnvR X.K H O σ env) (p1 : RPosts X.K σ H O env H1 O1 env1 rs vs)
    (h : WOut G X W σ H O env (newV C fns f rs env1) (fun r env' => ∀ v H' O', RPost X.K σ H O env H' O' env' r v → Q v H')) {x dx : Addr} (hx : H1 x = none) (hdx : H1 dx = none) (hne : dx ≠ x) :
    spF G X.K C f fn (.ref x :: vs) (upd (upd H1 dx (.own x)) x (.ins (He.ga X.K c) dx [])) (fun v H2 => v = .non ∧ Q (.ref x) H2) (fun cls d H' => W cls d σ H') := by
  unfold newV at h
  rw [hf] at h
  simp only [hc] at h
  by_cases hh : fn.name = "__init__" ∧ fn.modes.head? = some true
  · rw [if_pos hh] at h
    obtain ⟨ms, em⟩ : ∃ ms, fn.modes = true :: ms := by
      cases z : fn.modes with
      | nil => rw [z] at hh; exact nomatch hh.2
      | cons b ms =>
        rw [z] at hh
        have : b = true := by simpa using hh.2
        exact ⟨ms, by rw [this]⟩
    rw [em] at h
    simp only [List.drop_succ_cons, List.drop_zero] at h
    cases q1 : argsD ms rs env1 with
    | none => rw [q1] at h; exact (show False from h).elim
    | some pr =>
      obtain ⟨ds, is, env2⟩ := pr
      rw [q1] at h
      simp only at h
      obtain ⟨O2, T, p2, a2, n2, i2, t2, o2⟩ := args_sound p1.p.er p1.vr p1.nd q1
      have p12 := p1.p.trans p2
      have k1 := grow_new (o := HO.own x) hdx
      have hx' : upd H1 dx (.own x) x = none := by rw [upd_ne (Ne.symm hne)]; exact hx
      have k2 := grow_new (o := HO.ins (He.ga X.K c) dx []) hx'
      have hk : ∀ a o, H1 a = some o → upd (upd H1 dx (.own x)) x (.ins (He.ga X.K c) dx []) a = some o := fun a o e => k2 a o (k1 a o e)
      have p3 := Post.more p2.er hk hx ⟨_, upd_same, pl_ins⟩
      have fz3 := p3.fz p2.er
      refine ⟨_, .obj c [] :: ds, ?_, ?_, ?_, p3.er.dom, ?_⟩
      · have := (ArgR.len a2).1
        rw [← hml, em, List.length_cons, List.length_cons, this]
      · rw [em]
        refine ⟨⟨x, rfl, .inl rfl, dx, [], upd_same, rfl, cl, fun p hp => nomatch hp⟩, ArgR.step fz3 (fun a h => .inr h) (fun a o _ q _ => hk a o q) a2⟩
      · rw [em]
        refine List.nodup_cons.mpr ⟨fun z => ?_, n2⟩
        obtain ⟨o, e, _⟩ := p2.er.dom x (o2 x z)
        rw [hx] at e; cases e
      · rw [em]
        cases q2 : C f (.obj c [] :: ds) with
        | err => rw [q2] at h; exact h
        | exc y outs => rw [q2] at h; exact (show False from h).elim
        | ret r outs =>
          rw [q2] at h
          intro v H3 O3 cp hr
          match r, outs, h, cp, hr with
          | .fz .non, o :: outs, h, cp, hr =>
            simp only at h
            cases q3 : outsD is outs env2 with
            | none => rw [q3] at h; exact (show False from h).elim
            | some env3 =>
              rw [q3] at h
              have hR2 : ¬ Root σ env2 x := p2.er.notRoot hx
              have i3 : IsR σ env2 (x :: T) (none :: is) (x :: refA ms vs) := ⟨List.mem_cons_self, by
                have mono : ∀ {is : List (Option Nat)} {as : List Addr}, IsR σ env2 T is as → IsR σ env2 (x :: T) is as := by
                  intro is
                  induction is with
                  | nil => intro as h; cases as <;> exact h
                  | cons j is ih =>
                    intro as h
                    cases as with
                    | nil => cases j <;> exact h
                    | cons b as =>
                      cases j with
                      | none => exact ⟨List.mem_cons_of_mem _ h.1, ih h.2⟩
                      | some j => exact ⟨h.1, h.2.1, ih h.2.2⟩
                exact mono i2⟩
              have nx : x ∉ refA ms vs := fun z => by
                obtain ⟨o, e, _⟩ := p2.er.dom x (o2 x z)
                rw [hx] at e
                cases e
              have nd3 : (x :: refA ms vs).Nodup := List.nodup_cons.mpr ⟨nx, n2⟩
              have p4 := outs_post (X := X) p3.er i3 nd3 (fun a ha => by
                rcases List.mem_cons.mp ha with z | z
                · rw [z]; exact ⟨.inl rfl, hR2⟩
                · exact ⟨.inr (t2 a z).2.1, (t2 a z).2.2⟩) (fun a ha => by
                rcases List.mem_cons.mp ha with z | z
                · rw [z]; exact .inl rfl
                · exact .inr (o2 a z)) cp (show outsD (none :: is) (o :: outs) env2 = some env3 from q3)
              have p := ((p12.trans p3).trans p4).clean er fun a z => by
                rcases z with ((z | z) | z) | z
                · exact z.elim
                · exact p1.t a z
                · exact z.elim
                · rcases List.mem_cons.mp z with z | z
                  · rw [z]; exact p1.p.ext.free hx
                  · exact p1.t a (t2 a z).1
              refine ⟨hr, h _ H3 O3 ⟨p, ⟨x, rfl, cp.hold x (.inl rfl), fun z => hR2 (p4.root x z), cp.outs.1⟩, fun b hb => ?_⟩⟩
              have z : b = x := by simpa [tmp] using hb
              rw [z]
              exact p1.p.ext.free hx
          | .fz .non, [], h, cp, hr => exact (show False from h).elim
          | .fz (.bl _), _, h, cp, hr => exact (show False from h).elim
          | .fz (.int _), _, h, cp, hr => exact (show False from h).elim
          | .fz (.str _), _, h, cp, hr => exact (show False from h).elim
          | .fz (.tup _), _, h, cp, hr => exact (show False from h).elim
          | .fz (.lst _), _, h, cp, hr => exact (show False from h).elim
          | .fz (.dk _), _, h, cp, hr => exact (show False from h).elim
          | .fz (.dt _), _, h, cp, hr => exact (show False from h).elim
          | .fz (.obj _ _), _, h, cp, hr => exact (show False from h).elim
          | .fz (.exc _ _), _, h, cp, hr => exact (show False from h).elim
          | .fz (.clo _ _), _, h, cp, hr => exact (show False from h).elim
          | .fr _, _, h, cp, hr => exact (show False from h).elim
          | .prm _, _, h, cp, hr => exact (show False from h).elim
  · rw [if_neg hh] at h; exact (show False from h).elim
theorem se_new {k f : Nat} {fn : Fn} {c : Str} {fa : Addr} {fd : FuncData} {e : Expr} {es : List Expr} {irs : List E} {p pos : Pos} (hf : fns[f]? = some fn) (hc : fn.cls = some c) (hg : X.A.guards = some []) (hr : ∀ (C : Addr) (us : List Value), Room (k + 2) (X.A.under (.builtin "type.__call__" ⟨.ref C :: us, []⟩))) (Mf : MethF G X C fns k f fn c fa fd) (M : Mk X.K (He.ga X.K c) fa) (cl : Cls X.K (He.ga X.K c))
    (hgl : Gl X c) (hm : X.mg c = some (.ref (He.ga X.K c))) (hdb : (c == ("__debug__" : Str)) = false)
    (hs : starEach (e :: es) X.env = (false, eval e X.env) :: starEach es X.env) (hpl : (backTo pos (starEach es X.env)).any (·.1) = false) (ha : SA G X C fns (e :: es) irs) : SE G X C fns (.Call (.Name c p) (e :: es) [] pos) (.new f irs) := by
  intro σ H O env Q W tk er h
  intro pins s I
  simp only [evE] at h
  refine wpAny_Call_Name_kw (ld_glob I hgl hm ?_ hdb)
  have ta : TMa X (e :: es) σ H (fun vs H1 => ∀ x dx, H1 x = none → H1 dx = none → dx ≠ x → spF G X.K C f fn (.ref x :: vs) (upd (upd H1 dx (.own x)) x (.ins (He.ga X.K c) dx [])) (fun v H2 => v = .non ∧ Q (.ref x) H2) (fun cls d H' => W cls d σ H')) :=
    ha σ H O env _ W tk er (Out.mono h.bind (fun rs env1 _ g vs H1 O1 p1 x dx hx hdx hne => new_sp hf hc Mf.ml cl er p1 g hx hdx hne) fun _ _ k => k)
  refine PySem.W.callWith_K (h₀ := X.base) I.ok.mod.kin M.kp (thn (ta pos pins s I) fun us s1 ⟨vs, H1, I1, r, q⟩ => ⟨I1.kIn, ?_⟩) hs hpl
  exact run_makeG M Mf.go hg hr Mf.bind tk I1 r q
end
end PB

/-! PCc -/
/-! PC, part C: a loop over the keys of a dict, which is locked meanwhile. -/
namespace PB
open PySem L2
variable [Tb]
section
variable {G : Glob} {X : Cx} {C : Callee} {fns : List Fn} {Wf : Nat} {σ σ' σ2 σ3 : L2.St} {H H' H1 H2 H3 : Hp} {O O' O1 O2 O3 : Addr → Prop} {env env' env1 env2 env3 : Env} {W : WX} {D : Ends}

/-! ### locked and unlocked -/
structure Lk (H H2 : Hp) : Prop where
  tup : ∀ b xs, H b = some (.tup xs) → H2 b = some (.tup xs)
  lst : ∀ b xs, Rd H b (.lst xs) → Rd H2 b (.lst xs)
  dk : ∀ b kvs, H b = some (.dK kvs) → H2 b = some (.dK kvs)
  dt : ∀ b kvs, Rd H b (.dT kvs) → Rd H2 b (.dT kvs)
  ins : ∀ b c dx fs, H b = some (.ins c dx fs) → H2 b = some (.ins c dx fs)
  ext : ∀ b φ, H b = some (.ext φ) → H2 b = some (.ext φ)
  xd : ∀ b fs, H b = some (.xd fs) → H2 b = some (.xd fs)
  tbl : ∀ b ps, H b = some (.tbl ps) → H2 b = some (.tbl ps)
  sm : SmOk H → SmOk H2
theorem Lk.lock {a : Addr} {o : Obj} {kvs : List (List Key × V)} (h : H a = some (.dT kvs)) : Lk H (upd H a (.frz o (.dT kvs))) := by
  have ne : ∀ {b : Addr} {u : HO}, H b = some u → (∀ m, u ≠ .dT m) → b ≠ a := fun e n z => by
    rw [z, h] at e
    cases e
    exact n _ rfl
  refine ⟨fun b xs e => ?_, fun b xs e => ?_, fun b xs e => ?_, fun b xs e => ?_, fun b c dx fs e => ?_, fun b φ e => ?_, fun b fs e => ?_, fun b ps e => ?_, fun ⟨ob, e, c⟩ => ⟨ob, ?_, c⟩⟩
  · rw [upd_ne (ne e fun _ z => nomatch z)]; exact e
  · rcases e with e | ⟨ob, e⟩
    · exact .inl (by rw [upd_ne (ne e fun _ z => nomatch z)]; exact e)
    · exact .inr ⟨ob, by rw [upd_ne (ne e fun _ z => nomatch z)]; exact e⟩
  · rw [upd_ne (ne e fun _ z => nomatch z)]; exact e
  · by_cases z : b = a
    · subst z
      rcases e with e | ⟨ob, e⟩
      · rw [h] at e
        cases e
        exact .inr ⟨o, upd_same⟩
      · rw [h] at e; cases e
    · rcases e with e | ⟨ob, e⟩
      · exact .inl (by rw [upd_ne z]; exact e)
      · exact .inr ⟨ob, by rw [upd_ne z]; exact e⟩
  · rw [upd_ne (ne e fun _ z => nomatch z)]; exact e
  · rw [upd_ne (ne e fun _ z => nomatch z)]; exact e
  · rw [upd_ne (ne e fun _ z => nomatch z)]; exact e
  · rw [upd_ne (ne e fun _ z => nomatch z)]; exact e
  · rw [upd_ne (ne e fun _ z => nomatch z)]; exact e
theorem Lk.unlock {a : Addr} {o : Obj} {kvs : List (List Key × V)} (h : H a = some (.frz o (.dT kvs))) : Lk H (upd H a (.dT kvs)) := by
  have ne : ∀ {b : Addr} {u : HO}, H b = some u → u ≠ .frz o (.dT kvs) → b ≠ a := fun e n z => by
    rw [z, h] at e
    cases e
    exact n rfl
  refine ⟨fun b xs e => ?_, fun b xs e => ?_, fun b xs e => ?_, fun b xs e => ?_, fun b c dx fs e => ?_, fun b φ e => ?_, fun b fs e => ?_, fun b ps e => ?_, fun ⟨ob, e, c⟩ => ⟨ob, ?_, c⟩⟩
  · rw [upd_ne (ne e fun z => nomatch z)]; exact e
  · rcases e with e | ⟨ob, e⟩
    · exact .inl (by rw [upd_ne (ne e fun z => nomatch z)]; exact e)
    · exact .inr ⟨ob, by rw [upd_ne (ne e fun z => by injection z with _ z; exact nomatch z)]; exact e⟩
  · rw [upd_ne (ne e fun z => nomatch z)]; exact e
  · by_cases z : b = a
    · subst z
      rcases e with e | ⟨ob, e⟩
      · rw [h] at e; cases e
      · rw [h] at e
        cases e
        exact .inl upd_same
    · rcases e with e | ⟨ob, e⟩
      · exact .inl (by rw [upd_ne z]; exact e)
      · exact .inr ⟨ob, by rw [upd_ne z]; exact e⟩
  · rw [upd_ne (ne e fun z => nomatch z)]; exact e
  · rw [upd_ne (ne e fun z => nomatch z)]; exact e
  · rw [upd_ne (ne e fun z => nomatch z)]; exact e
  · rw [upd_ne (ne e fun z => nomatch z)]; exact e
  · rw [upd_ne (ne e fun z => nomatch z)]; exact e
theorem Rep.lk {K : PySem.W.Frag} (f : Lk H H2) : ∀ (d : PB.D) (v : V), Rep K H O d v → Rep K H2 O d v := by
  intro d
  induction d using D.ind with
  | h1 => intro v h; exact h
  | h2 b => intro v h; exact h
  | h3 b => intro v h; exact h
  | h4 b => intro v h; exact h
  | h5 l ih =>
    intro v h
    simp only [Rep] at h ⊢
    obtain ⟨a, xs, e, n, hs, hr⟩ := h
    exact ⟨a, xs, e, n, f.tup _ _ hs, hr.imp ih⟩
  | h6 l ih =>
    intro v h
    simp only [Rep] at h ⊢
    obtain ⟨a, xs, e, n, hs, hr⟩ := h
    exact ⟨a, xs, e, n, hs.imp (f.lst _ _) id, hr.imp ih⟩
  | h7 l ih =>
    intro v h
    simp only [Rep] at h ⊢
    obtain ⟨a, xs, e, n, hs, hr⟩ := h
    exact ⟨a, xs, e, n, f.dk _ _ hs, hr.imp ih⟩
  | h8 l ih =>
    intro v h
    simp only [Rep] at h ⊢
    obtain ⟨a, xs, e, n, hs, hr⟩ := h
    exact ⟨a, xs, e, n, f.dt _ _ hs, hr.imp ih⟩
  | h9 c l ih =>
    intro v h
    simp only [Rep] at h ⊢
    obtain ⟨a, dx, xs, e, n, hs, hr, ho⟩ := h
    exact ⟨a, dx, xs, e, n, f.ins _ _ _ _ hs, hr.imp ih, ho⟩
  | h10 c l ih =>
    intro v h
    simp only [Rep] at h ⊢
    obtain ⟨a, dx, xs, e, n, n2, hs, hd, hr, ho⟩ := h
    exact ⟨a, dx, xs, e, n, n2, f.ext a _ hs, f.xd dx _ hd, hr.imp ih, ho⟩
  | h11 c l ih => intro v h; exact h
theorem Shp.lk {K : PySem.W.Frag} (f : Lk H H2) {d : PB.D} {a : Addr} (ha : H2 a = H a) (h : Shp K H O d a) : Shp K H2 O d a := by
  cases d with
  | lst l => obtain ⟨xs, e, r⟩ := h; exact ⟨xs, by rw [ha]; exact e, r.imp fun d _ v => Rep.lk f d v⟩
  | dk l => obtain ⟨xs, e, r⟩ := h; exact ⟨xs, by rw [ha]; exact e, r.imp fun d _ v => Rep.lk f d.2 v⟩
  | dt l => obtain ⟨xs, e, r⟩ := h; exact ⟨xs, by rw [ha]; exact e, r.imp fun d _ v => Rep.lk f d.2 v⟩
  | obj c l => obtain ⟨dx, xs, e, r, o⟩ := h; exact ⟨dx, xs, by rw [ha]; exact e, r.imp fun d _ v => Rep.lk f d.2 v, o⟩
  | _ => exact h
theorem Lk.tabs {T : List (Addr × Str)} (f : Lk H H2) (t : LamX.Tabs T H) : LamX.Tabs T H2 := fun q hq => by
  obtain ⟨ps, h1, h2, h3⟩ := t q hq
  refine ⟨ps, f.tbl _ _ h1, h2, fun pos cv hc => ?_⟩
  obtain ⟨c, e1, e2⟩ := h3 pos cv hc
  exact ⟨c, e1, f.ext _ _ e2⟩
theorem EnvR.lk {K : PySem.W.Frag} (f : Lk H H2) (ho : ∀ b, O b → H2 b = H b) (e : EnvR K H O σ env) : EnvR K H2 O σ env := by
  refine ⟨e.len, fun i d h => ?_, fun i d h => ?_, e.apart, ⟨fun a h => ?_, f.tabs e.dom.tb, f.sm e.dom.sm⟩⟩
  · obtain ⟨v, h1, h2⟩ := e.val i d h
    exact ⟨v, h1, Rep.lk f d v h2⟩
  · obtain ⟨a, h1, h2, h3⟩ := e.own i d h
    exact ⟨a, h1, h2, h3.lk f (ho a h2)⟩
  · obtain ⟨o, q, n⟩ := e.dom a h
    exact ⟨o, by rw [ho a h]; exact q, n⟩
theorem VdR.lk {K : PySem.W.Frag} (f : Lk H H2) (ho : ∀ b, O b → H2 b = H b) {r : Vd} {v : V} (h : VdR K H O σ env r v) : VdR K H2 O σ env r v := by
  cases r with
  | fz d => exact Rep.lk f d v h
  | fr d =>
    obtain ⟨a, e1, e2, e3, e4⟩ := h
    exact ⟨a, e1, e2, e3, e4.lk f (ho a e2)⟩
  | bw i => exact h
/-- behind the loop the dict stands as ahead of it -/
theorem SPost.unlock {K : PySem.W.Frag} {a : Addr} {o : Obj} {kvs : List (List Key × V)} (er : EnvR K H O σ env) (ha : H a = some (.dT kvs)) (hO : ¬ O a) (p : SPost K None0 σ (upd H a (.frz o (.dT kvs))) O env σ' H' O' env') :
    H' a = some (.frz o (.dT kvs)) ∧ ¬ O' a ∧ SPost K None0 σ H O env σ' (upd H' a (.dT kvs)) O' env' := by
  have nR : ¬ Root σ env a := fun z => hO (er.rootO z)
  have e1 : H' a = some (.frz o (.dT kvs)) := p.ext.keep a _ upd_same (fun z => z.elim nR id) fun _ z => nomatch z
  have nO' : ¬ O' a := fun z => by
    rcases p.new a z with q | q
    · exact hO q
    · rw [upd_same] at q; cases q
  have free : ∀ b, upd H a (.frz o (.dT kvs)) b = none → H b = none := fun b q => by
    by_cases z : b = a
    · rw [z, upd_same] at q; cases q
    · rw [upd_ne z] at q; exact q
  refine ⟨e1, nO', ⟨⟨fun b u q n t => ?_, fun b u q => ?_⟩, p.er.lk (Lk.unlock e1) fun b hb => upd_ne fun z => nO' (by rw [← z]; exact hb), fun b z => (p.new b z).imp id (free b), p.hold, fun b z => ?_, fun _ z => z.elim, p.refs, p.refs', p.len⟩⟩
  · by_cases z : b = a
    · subst z
      rw [ha] at q
      cases q
      exact upd_same
    · rw [upd_ne z]
      exact p.ext.keep b u (by rw [upd_ne z]; exact q) n t
  · by_cases z : b = a
    · rw [z]; exact ⟨_, upd_same⟩
    · rw [upd_ne z]
      exact p.ext.dom b u (by rw [upd_ne z]; exact q)
  · rcases p.root b z with q | q | q
    · exact .inl q
    · exact q.elim
    · exact .inr (.inr (free b q))

/-! ### the loop -/
theorem for_core {tg : Expr} {body : List Stmt} {t : Tg} {ib : List S} {J : L2.It} {ds : List PB.D} (hg : SG G X C fns tg t) (hb : SSs G X C fns Wf body ib) (tk : Takes X W) (er : EnvR X.K H O σ env) (src : Src X.K H O J ds)
    (h : SOut G X W D σ H O env (forL (asT C fns t) (exSs C fns Wf ib) ds env)) : ∃ Wm : Nat → Nat → L2.St → Hp → Prop, (∃ m, Wm 0 m σ H) ∧ ∀ i m σ H, Wm i m σ H →
  (J.stop i H ∧ D.nx σ H) ∨ (J.go i H ∧ ∃ N : L2.St → Hp → Prop, (∀ σ' H', N σ' H' → ∃ m', m' < m ∧ Wm (i + 1) m' σ' H') ∧ ∀ x H', J.yld i H x H' → TMg X tg x σ H' fun σ2 H2 => TMss X body { D with nx := N, ct := N, bk := D.nx } σ2 H2) := by
  let Pv : Nat → L2.St → Hp → Prop := fun i σ2 H2 => ∃ O2 env2, SPost X.K None0 σ H O env σ2 H2 O2 env2 ∧ SOut G X W D σ H O env (forL (asT C fns t) (exSs C fns Wf ib) (ds.drop i) env2)
  refine ⟨fun i m σ2 H2 => m = ds.length - i ∧ i ≤ ds.length ∧ Pv i σ2 H2, ⟨ds.length, by omega, Nat.zero_le _, O, env, SPost.refl er, by rw [List.drop_zero]; exact h⟩, ?_⟩
  rintro i m σ2 H2 ⟨rfl, hi', O2, env2, p2, h2⟩
  have f2 := p2.fz er
  by_cases hlt : i < ds.length
  · refine .inr ⟨src.goes i H2 O2 f2 hlt, Pv (i + 1), fun σ3 H3 z => ⟨ds.length - (i + 1), by omega, rfl, hlt, z⟩, fun x H3 hy => ?_⟩
    obtain ⟨hk, hrep⟩ := src.yields i ds[i] H2 O2 x H3 f2 p2.er.dom (by simp [hlt]) hy
    have pg := (Post.grow p2.er hk).s
    have p3 := p2.then0 er pg
    rw [List.drop_eq_getElem_cons hlt] at h2
    simp only [forL] at h2
    have h2 := SOut.bind h2
    refine hg σ2 H3 O2 env2 x ds[i] _ W tk pg.er hrep (SWOut.behind er p3 h2 fun _ env4 _ h4 σ4 H4 O4 p4 _ => ?_)
    have p34 := p3.then0 er p4
    refine hb σ4 H4 O4 env4 _ W tk p4.er ?_
    cases qb : exSs C fns Wf ib env4 with
    | err => rw [qb] at h4; exact (show False from h4).elim
    | exc y e =>
      rw [qb] at h4
      exact fun cls d σ5 H5 O5 p5 ex => h4 cls d σ5 H5 O5 (p34.then0 er p5) ex
    | ok f e =>
      rw [qb] at h4
      cases f with
      | next => exact fun σ5 H5 O5 p5 => ⟨O5, e, p34.then0 er p5, h4⟩
      | cont => exact fun σ5 H5 O5 p5 => ⟨O5, e, p34.then0 er p5, h4⟩
      | brk => exact fun σ5 H5 O5 p5 => h4 σ5 H5 O5 (p34.then0 er p5)
      | ret v => exact fun σ5 H5 O5 u p5 vr t => h4 σ5 H5 O5 u (p34.then0 er p5) vr fun a ha => p34.ext.free (t a ha)
  · have ei : i = ds.length := by omega
    subst ei
    rw [List.drop_length] at h2
    exact .inl ⟨src.stops H2 O2 f2, h2 σ2 H2 O2 p2⟩
theorem keyD1_rep {K : PySem.W.Frag} : ∀ {k : List Key}, Reps K H O (k.map keyD1) (k.map kV)
  | [] => rfl
  | .inl i :: r => ⟨_, _, rfl, rfl, keyD1_rep⟩
  | .inr s :: r => ⟨_, _, rfl, rfl, keyD1_rep⟩
theorem Rept.keyAt {K : PySem.W.Frag} : ∀ {l : List (List Key × PB.D)} {kvs : List (List Key × V)} {i : Nat} {k : List Key} {v : V}, Rept K H O l kvs → kvs[i]? = some (k, v) → ∃ d, l[i]? = some (k, d)
  | [], kvs, i, k, v, h, e => by
    have h : kvs = [] := h
    rw [h] at e
    simp at e
  | (k', d) :: l, kvs, i, k, v, h, e => by
    obtain ⟨x, r, e1, h1, h2⟩ : ∃ x r, kvs = (k', x) :: r ∧ Rep K H O d x ∧ Rept K H O l r := h
    subst e1
    cases i with
    | zero =>
      simp at e
      exact ⟨d, by simp [e.1]⟩
    | succ i =>
      obtain ⟨d', q⟩ := Rept.keyAt h2 (i := i) (by simpa using e)
      exact ⟨d', by simpa using q⟩
theorem src_keys {K : PySem.W.Frag} {l : List (List Key × PB.D)} {kvs : List (List Key × V)} {a : Addr} {o : Obj} (ha : H a = some (.frz o (.dT kvs))) (hO : ¬ O a) (r : Rept K H O l kvs) : Src K H O (Itkt a o kvs) (l.map fun p => .tup (p.1.map keyD1)) := by
  have hl := r.length
  refine ⟨fun i H2 O2 f hi => ?_, fun H2 O2 f => ?_, fun i d H2 O2 x H3 f dm e y => ?_⟩
  · rw [List.length_map, hl] at hi
    exact ⟨f.keep a _ ha hO (fun _ z => nomatch z), hi⟩
  · rw [List.length_map, hl]
    exact ⟨f.keep a _ ha hO (fun _ z => nomatch z), Nat.le_refl _⟩
  · obtain ⟨e1, k, v, q, e2, e3, e4⟩ := y
    subst e1 e3
    obtain ⟨d', hd⟩ := r.keyAt e2
    rw [List.getElem?_map, hd] at e
    have e : D.tup (k.map keyD1) = d := Option.some.inj e
    subst e
    refine ⟨fun _ _ z => z, q, _, rfl, fun z => ?_, e4, keyD1_rep⟩
    obtain ⟨u, g1, g2⟩ := dm q z
    rw [e4] at g1
    cases g1
    exact g2.1 _ rfl
theorem noExc_out {r : Res Flow} (h : SOut G X W D σ H O env (noExc r)) : (∃ f e, r = .ok f e ∧ SOut G X W D σ H O env (.ok f e)) := by
  cases r with
  | ok f e => exact ⟨f, e, rfl, h⟩
  | exc x e => exact (show False from h).elim
  | err => exact (show False from h).elim
/-- for k in d: the dict's place is known ahead -/
theorem forK_run {tg iter : Expr} {body : List Stmt} {t : Tg} {ib : List S} {td : TE} {pos : Pos} {a : Addr} {kvs : List (List Key × V)} {l : List (List Key × PB.D)} (hp : PassesOwn (model X.prog X.w) X.A X.env X.xe) (hc : X.calm = true) (hg : SG G X C fns tg t) (hb : SSs G X C fns Wf body ib)
    (hs : ∀ x, foldedSetIterable iter X.env x = pure x) (hd : PE X iter td) (tk : Takes X W) (er : EnvR X.K H O σ env) (ha : Rd H a (.dT kvs)) (hO : ¬ O a) (r : Rept X.K H O l kvs)
    (htd : ∀ H2, Lk H H2 → (∀ b, O b → H2 b = H b) → ∀ Q : VK, Q (.ref a) H2 → td σ H2 Q)
    (h : SOut G X W D σ H O env (noExc (forL (asT C fns t) (exSs C fns Wf ib) (l.map fun p => .tup (p.1.map keyD1)) env))) : TMs X (.For tg iter body [] pos) D σ H := by
  obtain ⟨f, e, q, h⟩ := noExc_out h
  rcases ha with ha | ⟨o, ha⟩
  · refine TMs.of (ps_lock (ps_for hp hc (pi_keys hd) (pgM tg) (pssM body) hs)) ?_
    refine ⟨a, _, ha, True.intro, fun od => ?_⟩
    have f1 := Lk.lock (o := od) ha
    have hO1 : ∀ b, O b → upd H a (.frz od (.dT kvs)) b = H b := fun b hb => upd_ne fun z => hO (by rw [← z]; exact hb)
    have er1 := er.lk f1 hO1
    refine htd _ f1 hO1 _ ⟨a, od, rfl, .inr ⟨kvs, upd_same, ?_⟩⟩
    refine for_core hg hb tk er1 (src_keys (l := l) upd_same hO (r.imp fun d _ v => Rep.lk f1 d.2 v)) ?_
    rw [q]
    cases f with
    | next => exact fun σ' H' O' p => (fun z => ⟨z.1, h σ' _ O' z.2.2⟩) (p.unlock er ha hO)
    | brk => exact fun σ' H' O' p => (fun z => ⟨z.1, h σ' _ O' z.2.2⟩) (p.unlock er ha hO)
    | cont => exact fun σ' H' O' p => (fun z => ⟨z.1, h σ' _ O' z.2.2⟩) (p.unlock er ha hO)
    | ret v =>
      intro σ' H' O' u p vr t
      obtain ⟨z1, z2, z3⟩ := p.unlock er ha hO
      refine ⟨z1, h σ' _ O' u z3 (VdR.lk (Lk.unlock z1) (fun b hb => upd_ne fun z => z2 (by rw [← z]; exact hb)) vr) fun b hb => ?_⟩
      have q := t b hb
      by_cases z : b = a
      · rw [z, upd_same] at q; cases q
      · rw [upd_ne z] at q; exact q
  · refine TMs.of (ps_for hp hc (pi_keys hd) (pgM tg) (pssM body) hs) ?_
    refine htd H ⟨fun _ _ z => z, fun _ _ z => z, fun _ _ z => z, fun _ _ z => z, fun _ _ _ _ z => z, fun _ _ z => z, fun _ _ z => z, fun _ _ z => z, fun z => z⟩ (fun _ _ => rfl) _ ⟨a, o, rfl, .inr ⟨kvs, ha, ?_⟩⟩
    refine for_core hg hb tk er (src_keys ha hO r) ?_
    rw [q]
    exact h
theorem ss_forK {tg : Expr} {x : Str} {i : Nat} {body : List Stmt} {t : Tg} {ib : List S} {p pos : Pos} (hp : PassesOwn (model X.prog X.w) X.A X.env X.xe) (hc : X.calm = true) (hg : SG G X C fns tg t) (hb : SSs G X C fns Wf body ib)
    (hN : X.N[i]? = some x) (hv : Vis X.env.scope x) (h1 : (x == ("__debug__" : Str)) = false) (h2 : (x == ("__classdict__" : Str)) = false) : SS G X C fns Wf (.For tg (.Name x p) body [] pos) (.forK t i none ib) := by
  intro σ H O env D W tk er h
  simp only [exS] at h
  cases q : pthD env i none with
  | none => rw [q] at h; exact (show False from h).elim
  | some d =>
    rw [q] at h
    cases d with
    | dt l =>
      simp only at h
      have qe : env[i]? = some (.val (.dt l)) := by
        unfold pthD at q
        cases z : env[i]? with
        | none => rw [z] at q; cases q
        | some s =>
          rw [z] at q
          cases s <;> first | (cases q; rfl) | cases q
      obtain ⟨v, hv1, hr⟩ := er.val i _ qe
      simp only [Rep] at hr
      obtain ⟨a, kvs, e1, nO, ha, r⟩ := hr
      subst e1
      exact forK_run hp hc hg hb (fun _ => rfl) (pe_var hN hv h1 h2) tk er ha nO r (fun H2 _ _ Q hq => ⟨_, hv1, hq⟩) h
    | _ => exact (show False from h).elim
theorem ss_forKf {tg : Expr} {x f : Str} {i : Nat} {body : List Stmt} {t : Tg} {ib : List S} {p p2 pos : Pos} (hp : PassesOwn (model X.prog X.w) X.A X.env X.xe) (hc : X.calm = true) (hg : SG G X C fns tg t) (hb : SSs G X C fns Wf body ib)
    (hN : X.N[i]? = some x) (hv : Vis X.env.scope x) (h1 : (x == ("__debug__" : Str)) = false) (h2 : (x == ("__classdict__" : Str)) = false) : SS G X C fns Wf (.For tg (.Attribute (.Name x p) f p2) body [] pos) (.forK t i (some f) ib) := by
  intro σ H O env D W tk er h
  simp only [exS] at h
  cases q : pthD env i (some f) with
  | none => rw [q] at h; exact (show False from h).elim
  | some d =>
    rw [q] at h
    cases d with
    | dt l =>
      simp only at h
      obtain ⟨s, c, fs, qe, qd, ql⟩ : ∃ s c fs, env[i]? = some s ∧ s.data = some (.obj c fs) ∧ fs.lookup f = some (.dt l) := by
        unfold pthD at q
        cases z : env[i]? with
        | none => rw [z] at q; cases q
        | some s =>
          rw [z] at q
          simp only at q
          cases z2 : s.data with
          | none => rw [z2] at q; cases q
          | some d =>
            rw [z2] at q
            cases d <;> first | exact ⟨s, _, _, rfl, z2, q⟩ | cases q
      obtain ⟨v, hv1, rd⟩ : ∃ v, σ[i]? = some (some v) ∧ RdR X.K H O (.obj c fs) v := by
        cases s with
        | no => cases qd
        | val d =>
          cases qd
          obtain ⟨v, e1, e2⟩ := er.val i _ qe
          exact ⟨v, e1, .inl e2⟩
        | own d =>
          cases qd
          obtain ⟨a, e1, _, e2⟩ := er.own i _ (.inl qe)
          exact ⟨_, e1, .inr ⟨a, rfl, e2⟩⟩
        | ref d =>
          cases qd
          obtain ⟨a, e1, _, e2⟩ := er.own i _ (.inr qe)
          exact ⟨_, e1, .inr ⟨a, rfl, e2⟩⟩
      obtain ⟨b, dx, xs, e1, s1, r1, o1⟩ := rd.obj
      obtain ⟨⟨w, g1, g2⟩, g3⟩ := (r1.lookup (f := f)).2 _ ql
      simp only [Rep] at g2
      obtain ⟨a, kvs, e2, nO, ha, r⟩ := g2
      subst e1 e2
      exact forK_run hp hc hg hb (fun _ => rfl) (pe_fld (pe_var hN hv h1 h2) rfl) tk er ha nO r (fun H2 lk _ Q hq => ⟨_, hv1, b, _, dx, xs, _, rfl, lk.ins _ _ _ _ s1, o1.1, o1.2 _ g3, g1, hq⟩) h
    | _ => exact (show False from h).elim
end
end PB

/-! PEa -/
/-! PE, part A: texts; written dicts; o.f += e. -/
namespace PB
open PySem L2
variable [Tb]
variable {G : Glob} {X : Cx} {C : Callee} {fns : List Fn} {σ : L2.St} {H H' : Hp} {O O' : Addr → Prop} {env env' : Env} {W : WX}
theorem strs_reps {K : PySem.W.Frag} : ∀ {l : List D} {xs : List V} {ys : List Str}, Reps K H O l xs → strsOf l = some ys → xs = ys.map V.str
  | [], xs, ys, h, e => by
    cases e
    exact h
  | .str a :: l, xs, ys, h, e => by
    simp only [Reps] at h
    obtain ⟨x, r, rfl, h1, h2⟩ := h
    have e : (strsOf l).map (a :: ·) = some ys := e
    obtain ⟨zs, q, rfl⟩ := Option.map_eq_some_iff.mp e
    have h1 : x = .str a := h1
    rw [h1, strs_reps h2 q]
    rfl
  | .non :: l, _, _, _, e => nomatch e
  | .bl _ :: l, _, _, _, e => nomatch e
  | .int _ :: l, _, _, _, e => nomatch e
  | .tup _ :: l, _, _, _, e => nomatch e
  | .lst _ :: l, _, _, _, e => nomatch e
  | .dk _ :: l, _, _, _, e => nomatch e
  | .dt _ :: l, _, _, _, e => nomatch e
  | .obj _ _ :: l, _, _, _, e => nomatch e
  | .exc _ _ :: l, _, _, _, e => nomatch e
  | .clo _ _ :: l, _, _, _, e => nomatch e
theorem strs_rep {K : PySem.W.Frag} : ∀ ys : List Str, Reps K H O (ys.map D.str) (ys.map V.str)
  | [] => Reps.nil
  | y :: ys => .cons rfl (strs_rep ys)
theorem isStr_ok {x : Vd} (h : isStrV x = true) : ∃ a, x = .fz (.str a) := by
  cases x with
  | fz d => cases d <;> first | exact ⟨_, rfl⟩ | cases h
  | fr d => cases h
  | bw d => cases h
theorem joinS_out {a : Str} {l : List D} {P : Vd → Env → Prop} {E : D → Env → Prop} (h : Out (joinS a l env) P E) : ∃ ys, strsOf l = some ys ∧ (ys.map (·.length)).sum + ys.length * a.length ≤ 16777216 ∧ P (.fz (.str (Txt.join a ys))) env := by
  unfold joinS at h
  cases q : strsOf l with
  | none => rw [q] at h; exact (show False from h).elim
  | some ys =>
    rw [q] at h
    simp only at h
    split at h
    · rename_i z
      exact ⟨ys, rfl, z, h⟩
    · exact (show False from h).elim
theorem se_join {o e : Expr} {io ie : E} {apos pos : Pos} (hs : starEach [e] X.env = [(false, eval e X.env)]) (hb : attributeBase o "join" X.env (eval o X.env) = eval o X.env) (hl : (apos.endLine == pos.line) = true) (ho : SE G X C fns o io) (he : SE G X C fns e ie) :
    SE G X C fns (.Call (.Attribute o "join" apos) [e] [] pos) (.join io ie) := by
  intro σ H O env Q W tk er h
  refine TM.of (pe_join (peM o) (peM e) hs hb hl) ?_
  simp only [evE] at h
  refine ho σ H O env _ W tk er (Out.mono h.bind (fun x env1 _ g vx H1 O1 p1 => ?_) fun _ _ k => k)
  by_cases hx : isStrV x = true
  · rw [if_pos hx] at g
    obtain ⟨a, rfl⟩ := isStr_ok hx
    have vx' : vx = .str a := p1.vr
    subst vx'
    refine ⟨⟨a, rfl⟩, he σ H1 O1 env1 _ W tk p1.p.er (WOut.behind p1.p g.bind fun y env2 _ g2 vy H2 O2 p2 => ?_)⟩
    unfold joinV at g2
    have fin : ∀ r, RPost X.K σ H O env H2 O2 env2 (.fz (.str r)) (.str r) := fun r => RPost.more (p1.p.then0 p2.p) (RPost.here p2.p.er rfl)
    cases q : nowD env2 y with
    | none => rw [q] at g2; exact (show False from g2).elim
    | some d =>
      rw [q] at g2
      have rd := VdR.now p2.p.er p2.vr q
      cases d with
      | lst l =>
        obtain ⟨ys, e1, e2, g3⟩ := joinS_out g2
        obtain ⟨p, xs, rfl, s1, r1⟩ := rd.lst
        rw [strs_reps r1 e1] at s1
        exact ⟨a, p, ys, rfl, rfl, .inl s1, e2, g3 _ _ _ (fin _)⟩
      | tup l =>
        obtain ⟨ys, e1, e2, g3⟩ := joinS_out g2
        obtain ⟨p, xs, rfl, s1, r1⟩ := rd.tup
        rw [strs_reps r1 e1] at s1
        exact ⟨a, p, ys, rfl, rfl, .inr (SqT.of s1), e2, g3 _ _ _ (fin _)⟩
      | _ => exact (show False from g2).elim
  · rw [if_neg hx] at g; exact (show False from g).elim
theorem se_split {o e : Expr} {io ie : E} {apos pos : Pos} (hs : starEach [e] X.env = [(false, eval e X.env)]) (hb : attributeBase o "split" X.env (eval o X.env) = eval o X.env) (hl : (apos.endLine == pos.line) = true) (ho : SE G X C fns o io) (he : SE G X C fns e ie) :
    SE G X C fns (.Call (.Attribute o "split" apos) [e] [] pos) (.split io ie) := by
  intro σ H O env Q W tk er h
  refine TM.of (pe_split (peM o) (peM e) hs hb hl) ?_
  simp only [evE] at h
  refine ho σ H O env _ W tk er (Out.mono h.bind (fun x env1 _ g vx H1 O1 p1 => ?_) fun _ _ k => k)
  by_cases hx : isStrV x = true
  · rw [if_pos hx] at g
    obtain ⟨a, rfl⟩ := isStr_ok hx
    have vx' : vx = .str a := p1.vr
    subst vx'
    refine ⟨⟨a, rfl⟩, he σ H1 O1 env1 _ W tk p1.p.er (WOut.behind p1.p g.bind fun y env2 _ g2 vy H2 O2 p2 => ?_)⟩
    unfold splitV at g2
    match y, p2, g2 with
    | .fz (.str b), p2, g2 =>
      simp only at g2
      have vy' : vy = .str b := p2.vr
      subst vy'
      split at g2
      · rename_i z
        exact ⟨a, b, rfl, rfl, z.1, z.2, fun p hp => g2 _ _ _ (RPost.more (p1.p.then0 p2.p) (RPost.fresh p2.p.er hp fun _ _ f e => ⟨_, e, strs_rep _⟩))⟩
      · exact (show False from g2).elim
    | .fz .non, _, g2 => exact (show False from g2).elim
    | .fz (.bl _), _, g2 => exact (show False from g2).elim
    | .fz (.int _), _, g2 => exact (show False from g2).elim
    | .fz (.tup _), _, g2 => exact (show False from g2).elim
    | .fz (.lst _), _, g2 => exact (show False from g2).elim
    | .fz (.dk _), _, g2 => exact (show False from g2).elim
    | .fz (.dt _), _, g2 => exact (show False from g2).elim
    | .fz (.obj _ _), _, g2 => exact (show False from g2).elim
    | .fz (.exc _ _), _, g2 => exact (show False from g2).elim
    | .fz (.clo _ _), _, g2 => exact (show False from g2).elim
    | .fr _, _, g2 => exact (show False from g2).elim
    | .bw _, _, g2 => exact (show False from g2).elim
  · rw [if_neg hx] at g; exact (show False from g).elim
/-! ### a dict of the text, with text keys and ints -/
/-- the name g stands for the written dict l -/
def TabOk (K : PySem.W.Frag) (w : World) (mg : Str → Option Value) (g : Str) (l : List (Key × D)) : Prop :=
  ∃ (d : Addr) (es : Array DictEntry) (n : Nat), mg g = some (.ref d) ∧ KDict K w d es n ∧ ∀ z : Str, (kget l (.inr z) = none → PySem.W.nsIn K d z = some none) ∧
    ∀ x, kget l (.inr z) = some x → ∃ (i : Int) (u : Value), x = .int i ∧ PySem.W.nsIn K d z = some (some u) ∧ RelV (.int i) u
theorem kinV_out {neg : Bool} {l : List (Key × D)} {x : Vd} {P : Vd → Env → Prop} {E : D → Env → Prop} (h : Out (kinV neg l x env) P E) : ∃ z, x = .fz (.str z) ∧ P (.fz (.bl (if neg then !(kget l (.inr z)).isSome else (kget l (.inr z)).isSome))) env := by
  unfold kinV at h
  cases x with
  | fz d => cases d <;> first | exact ⟨_, rfl, h⟩ | exact (show False from h).elim
  | fr d => exact (show False from h).elim
  | bw d => exact (show False from h).elim
theorem kidxV_out {l : List (Key × D)} {x : Vd} {P : Vd → Env → Prop} {E : D → Env → Prop} (h : Out (kidxV l x env) P E) : ∃ z i, x = .fz (.str z) ∧ kget l (.inr z) = some (.int i) ∧ P (.fz (.int i)) env := by
  unfold kidxV at h
  match x, h with
  | .fz (.str z), h =>
    simp only at h
    cases q : kget l (.inr z) with
    | none => rw [q] at h; exact (show False from h).elim
    | some d =>
      rw [q] at h
      cases d with
      | int i => exact ⟨z, i, rfl, q, h⟩
      | _ => exact (show False from h).elim
  | .fz .non, h => exact (show False from h).elim
  | .fz (.bl _), h => exact (show False from h).elim
  | .fz (.int _), h => exact (show False from h).elim
  | .fz (.tup _), h => exact (show False from h).elim
  | .fz (.lst _), h => exact (show False from h).elim
  | .fz (.dk _), h => exact (show False from h).elim
  | .fz (.dt _), h => exact (show False from h).elim
  | .fz (.obj _ _), h => exact (show False from h).elim
  | .fz (.exc _ _), h => exact (show False from h).elim
  | .fz (.clo _ _), h => exact (show False from h).elim
  | .fr _, h => exact (show False from h).elim
  | .bw _, h => exact (show False from h).elim
theorem tab_isSome {K : PySem.W.Frag} {d : Addr} {l : List (Key × D)} {z : Str} (h : (kget l (.inr z) = none → PySem.W.nsIn K d z = some none) ∧ ∀ x, kget l (.inr z) = some x → ∃ (i : Int) (u : Value), x = .int i ∧ PySem.W.nsIn K d z = some (some u) ∧ RelV (.int i) u) :
    ∃ r, PySem.W.nsIn K d z = some r ∧ r.isSome = (kget l (.inr z)).isSome := by
  cases q : kget l (.inr z) with
  | none => exact ⟨none, h.1 q, rfl⟩
  | some x =>
    obtain ⟨i, u, _, e, _⟩ := h.2 x q
    exact ⟨some u, e, rfl⟩
theorem kin_run {neg : Bool} {a : Expr} {ia : E} {g : Str} {l : List (Key × D)} {p pos : Pos} {d : Addr} {es : Array DictEntry} {n : Nat} (hgl : Gl X g) (hd : (g == ("__debug__" : Str)) = false) (hm : X.mg g = some (.ref d)) (ht : ∀ z : Str, (kget l (.inr z) = none → PySem.W.nsIn X.K d z = some none) ∧
    ∀ x, kget l (.inr z) = some x → ∃ (i : Int) (u : Value), x = .int i ∧ PySem.W.nsIn X.K d z = some (some u) ∧ RelV (.int i) u) (ha : SE G X C fns a ia) (tk : Takes X W) (er : EnvR X.K H O σ env) {Q : VK}
    (h : WOut G X W σ H O env (evE C fns (.kin neg ia g l) env) (fun r env' => ∀ v H' O', RPost X.K σ H O env H' O' env' r v → Q v H')) :
    tOp (fun x y H Q => ∃ (z : Str) (r : Option Value), x = .str z ∧ y = .ref d ∧ PySem.W.nsIn X.K d z = some r ∧ Q (.bl (if neg then !r.isSome else r.isSome)) H) (TM X a) (tC (.ref d)) σ H Q := by
  simp only [evE] at h
  refine ha σ H O env _ W tk er (Out.mono h.bind (fun x env1 _ g1 vx H1 O1 p1 => ?_) fun _ _ k => k)
  obtain ⟨z, rfl, g2⟩ := kinV_out g1
  have vx' : vx = .str z := p1.vr
  subst vx'
  obtain ⟨r, e1, e2⟩ := tab_isSome (ht z)
  refine ⟨z, r, rfl, rfl, e1, ?_⟩
  rw [e2]
  exact g2 _ _ _ (RPost.more p1.p (RPost.here p1.p.er rfl))
theorem se_kin {neg : Bool} {a : Expr} {ia : E} {g : Str} {l : List (Key × D)} {p pos : Pos} (hgl : Gl X g) (hd : (g == ("__debug__" : Str)) = false) (ht : TabOk X.K X.w X.mg g l) (ha : SE G X C fns a ia) : SE G X C fns (.Compare a [if neg then .NotIn else .In] [.Name g p] pos) (.kin neg ia g l) := by
  intro σ H O env Q W tk er h
  obtain ⟨d, es, n, hm, hk, ht⟩ := ht
  have hr := kin_run (p := p) (pos := pos) (es := es) (n := n) hgl hd hm ht ha tk er h
  cases neg with
  | true => exact TM.of (pe_cmpR (op_notIn_kd hk) (peM a) (pe_glob (v := .ref d) hgl hm rfl hd) rfl) hr
  | false => exact TM.of (pe_cmpR (op_in_kd hk) (peM a) (pe_glob (v := .ref d) hgl hm rfl hd) rfl) hr
theorem st_kin {neg : Bool} {a : Expr} {ia : E} {g : Str} {l : List (Key × D)} {p pos : Pos} (hgl : Gl X g) (hd : (g == ("__debug__" : Str)) = false) (ht : TabOk X.K X.w X.mg g l) (ha : SE G X C fns a ia) : ST G X C fns (.Compare a [if neg then .NotIn else .In] [.Name g p] pos) (.kin neg ia g l) := by
  intro σ H O env Q W tk er h
  obtain ⟨d, es, n, hm, hk, ht⟩ := ht
  have hr := kin_run (p := p) (pos := pos) (es := es) (n := n) hgl hd hm ht ha tk er (out_bool h)
  cases neg with
  | true => exact TMt.of (pt_cmpR (op_notIn_kd hk) (peM a) (pe_glob (v := .ref d) hgl hm rfl hd) rfl) hr
  | false => exact TMt.of (pt_cmpR (op_in_kd hk) (peM a) (pe_glob (v := .ref d) hgl hm rfl hd) rfl) hr
theorem se_kidx {b : Expr} {ib : E} {g : Str} {l : List (Key × D)} {p pos : Pos} (hs : PlainIx b) (hgl : Gl X g) (hd : (g == ("__debug__" : Str)) = false) (ht : TabOk X.K X.w X.mg g l) (hb : SE G X C fns b ib) : SE G X C fns (.Subscript (.Name g p) b pos) (.kidx g l ib) := by
  intro σ H O env Q W tk er h
  obtain ⟨d, es, n, hm, hk, ht⟩ := ht
  refine TM.of (pe_ix ix_kdict (pe_glob hgl hm (v := .ref d) rfl hd) (peM b) hs) ?_
  simp only [evE] at h
  refine hb σ H O env _ W tk er (Out.mono h.bind (fun x env1 _ g1 vx H1 O1 p1 => ?_) fun _ _ k => k)
  obtain ⟨z, i, rfl, e1, g2⟩ := kidxV_out g1
  have vx' : vx = .str z := p1.vr
  subst vx'
  obtain ⟨j, u, e2, e3, e4⟩ := (ht z).2 _ e1
  cases e2
  exact ⟨d, z, .int i, rfl, rfl, ⟨es, n, u, hk.at_, hk.lit, e3, e4⟩, g2 _ _ _ (RPost.more p1.p (RPost.here p1.p.er rfl))⟩
/-! ### a text walked -/
theorem charsV_out {x : Vd} {P : List D → Env → Prop} {E : D → Env → Prop} (h : Out (charsV x env) P E) : ∃ s, x = .fz (.str s) ∧ P (s.cps.toList.map fun c => .str ⟨#[c]⟩) env := by
  unfold charsV at h
  cases x with
  | fz d => cases d <;> first | exact ⟨_, rfl, h⟩ | exact (show False from h).elim
  | fr d => exact (show False from h).elim
  | bw d => exact (show False from h).elim
theorem src_chars {K : PySem.W.Frag} (s : Str) : Src K H O (Its s) (s.cps.toList.map fun c => .str ⟨#[c]⟩) where
  goes := fun i H2 O2 _ hi => by
    rw [List.length_map, Array.length_toList] at hi
    exact hi
  stops := fun H2 O2 _ => by
    rw [List.length_map, Array.length_toList]
    exact Nat.le_refl _
  yields := fun i d H2 O2 x H3 _ _ hd hy => by
    obtain ⟨rfl, c, hc, rfl⟩ := hy
    refine ⟨fun _ _ h => h, ?_⟩
    rw [List.getElem?_map, Array.getElem?_toList, hc] at hd
    cases hd
    rfl
theorem si_chars {tg e : Expr} {ie : E} (he : SE G X C fns e ie) : SI G X C fns tg e (.chars ie) := by
  intro σ H O env R W tk er h
  refine TMi.of (pi_str (peM e)) ?_
  simp only [evIt] at h
  refine he σ H O env _ W tk er (Out.mono (Out.bind h) (fun x env1 _ h1 v H1 O1 p1 => ?_) fun _ _ k => k)
  obtain ⟨s, rfl, h2⟩ := charsV_out h1
  have v' : v = .str s := p1.vr
  subst v'
  exact ⟨s, rfl, h2 _ _ _ p1.p (src_chars s)⟩
/-! ### o.f += e -/
theorem augI_ok {r : Vd} {o : Option D} {f : Int → Str → List (Str × D) → Res Flow} {D : Ends} (k : SOut G X W D σ H O env (match r, o with
    | .fz (.int b), some (.obj c l) => f b c l
    | _, _ => .err)) : ∃ y, r = .fz (.int y) := by
  cases r with
  | fz d =>
    cases d with
    | int y => exact ⟨y, rfl⟩
    | _ => exact (show False from k).elim
  | fr d => exact (show False from k).elim
  | bw d => exact (show False from k).elim
theorem ss_augA {Wf : Nat} {x : Str} {i : Nat} {f : Str} {op : Operator} {e : Expr} {ie : E} {p p2 pos : Pos} (hN : X.N[i]? = some x) (hv : Vis X.env.scope x) (h1 : (x == ("__debug__" : Str)) = false) (h2 : (x == ("__classdict__" : Str)) = false)
    (hF : ∀ c, fldOk fns c f = true → NoAttr X.K (He.ga X.K c) f) (he : SE G X C fns e ie) : SS G X C fns Wf (.AugAssign (.Attribute (.Name x p) f p2) op e pos) (.augA i f op ie) := by
  intro σ H O env D W tk er h
  simp only [exS] at h
  cases q0 : ownD env i with
  | none => rw [q0] at h; exact (show False from h).elim
  | some c0 =>
    rw [q0] at h
    cases c0 with
    | obj c l =>
      simp only at h
      have ho := ownD_some q0
      obtain ⟨b, hp, hO, dx, xs, hs, hx, ob⟩ := er.own i _ ho
      cases q1 : l.lookup f with
      | none => rw [q1] at h; exact (show False from h).elim
      | some d1 =>
        rw [q1] at h
        cases d1 with
        | int a =>
          simp only at h
          by_cases hop : op = .Add
          · subst hop
            rw [if_pos rfl] at h
            obtain ⟨⟨w, g1, g2⟩, g3⟩ := (hx.lookup (f := f)).2 _ q1
            have g2 : w = .int a := g2
            subst g2
            refine TMs.of (ps_fldaug (pe_var hN hv h1 h2) (peM e) in_add) ⟨_, hp, b, _, dx, xs, _, rfl, hs, ob.1, ob.2 _ g3, g1, ?_⟩
            refine he σ H O env _ W tk er (SWOut.w h.bind fun r env1 _ k v H1 O1 p1 => ?_)
            obtain ⟨y, rfl⟩ := augI_ok k
            have vb : v = V.int y := p1.vr
            subst vb
            refine ⟨a, y, rfl, rfl, ?_⟩
            clear h
            cases q2 : ownD env1 i with
            | none => rw [q2] at k; exact (show False from k).elim
            | some c1 =>
              rw [q2] at k
              cases c1 with
              | obj c' l' =>
                simp only at k
                by_cases hc : fldOk fns c' f = true ∧ l'.length < 1000 ∧ c' = c
                · rw [if_pos hc] at k
                  obtain ⟨hc1, hc2, hc3⟩ := hc
                  cases q5 : putOwn env1 i (.obj c' (fput f (.int (a + y)) l')) with
                  | none => rw [q5] at k; exact (show False from k).elim
                  | some env2 =>
                    rw [q5] at k
                    have ho2 := ownD_some q2
                    obtain ⟨b2, hp2, hO2, dx2, xs2, hs2, hx2, ob2⟩ := p1.p.er.own i _ ho2
                    have eb : b2 = b := by
                      rw [hp] at hp2
                      cases hp2
                      rfl
                    subst eb
                    have n := hF c' hc1
                    refine ⟨dx2, xs2, by rw [← hc3]; exact hs2, by rw [← hx2.length]; exact hc2, ?_⟩
                    have sp := SPost.put (d := .obj c' (fput f (.int (a + y)) l')) (o := .ins (He.ga X.K c') dx2 (putF f (.int (a + y)) xs2)) p1.p.er ho2 hp2 (fun H' O' fz hh => ⟨dx2, _, hh, (hx2.step fz).put (show Rep X.K H' O' (.int (a + y)) (.int (a + y)) from rfl), ob2.put n⟩) q5
                    rw [← hc3]
                    exact k _ _ _ (p1.p.s.then0 er sp)
                · rw [if_neg hc] at k; exact (show False from k).elim
              | _ => exact (show False from k).elim
          · rw [if_neg hop] at h; exact (show False from h).elim
        | _ => exact (show False from h).elim
    | _ => exact (show False from h).elim
end PB

/-! PBp -/
/-! PB, part P: the checker (does this small text stand for that text?), and small facts. -/
namespace PB
open PySem L2

structure CC where
  N : List Str
  sc : Scope
  fl : Str → Bool
  cs : List (Str × D)
  fr : List Str
  kw : List (Nat × List Str × List Nat)
  xx : Xs
def CC.blk (cc : CC) (scope : Scope) : CC := { cc with sc := relS scope cc.sc, fl := fun x => scope.names.lookup x == some .cell }
def CC.gl (cc : CC) (x : Str) : Bool := decide (cc.sc.names.lookup x = some .globalImplicit)
def CC.glf (cc : CC) (x : Str) : Bool := cc.gl x && decide (x ∈ cc.fr)
def visB (sc : Scope) (x : Str) : Bool := match sc.names.lookup x with
  | some .local => true
  | some .cell => true
  | some .free => true
  | _ => false
def CC.var (cc : CC) (x : Str) (i : Nat) : Bool := decide (cc.N[i]? = some x) && visB cc.sc x && !(x == ("__debug__" : Str)) && !(x == ("__classdict__" : Str))
def CC.loc (cc : CC) (x : Str) (i : Nat) : Bool := decide (cc.N[i]? = some x) && (match cc.sc.names.lookup x with
  | some .local => true
  | some .cell => cc.fl x
  | _ => false)
/-- the class c of errors with the attribute f (made by the name p) -/
def CC.xmk (cc : CC) (c f : Str) (o : Option Str) : Bool := cc.xx.xs.any fun x => decide (x.c = c) && decide (x.f = f) && (match o with
  | none => true
  | some p => decide (x.prm = p))
def CC.isx (cc : CC) (t : Str) (yes no : List Str) : Bool := decide (t ∈ cc.xx.ts) && (yes.all fun c => cc.xx.xs.any fun x => decide (x.c = c) && x.sup.contains t) && (no.all fun c => cc.xx.xs.any fun x => decide (x.c = c) && !x.sup.contains t)
def tkvEq : List (Key × D) → List (Key × D) → Bool
  | [], [] => true
  | (.inr x, .int i) :: l, (.inr y, .int j) :: m => decide (x = y) && decide (i = j) && tkvEq l m
  | _, _ => false
def CC.tab (cc : CC) (g : Str) (l : List (Key × D)) : Bool := cc.gl g && !(g == ("__debug__" : Str)) && (match cc.cs.lookup g with
  | some (.dk m) => tkvEq m l
  | _ => false)
def scEq : D → D → Bool
  | .non, .non => true
  | .bl b, .bl c => b == c
  | .int i, .int j => decide (i = j)
  | .str s, .str t => decide (s = t)
  | _, _ => false
def cEq : Const → D → Bool
  | .none, .non => true
  | .bool b, .bl c => b == c
  | .int i, .int j => decide (i = j)
  | .str s, .str t => decide (s = t)
  | _, _ => false
def all2 {A B : Type} (f : A → B → Bool) : List A → List B → Bool
  | [], [] => true
  | a :: as, b :: bs => f a b && all2 f as bs
  | _, _ => false
def okO (f : Expr → E → Bool) : Option Expr → Option E → Bool
  | none, none => true
  | some e, some i => f e i
  | _, _ => false
def okIfs (f : Expr → E → Bool) : List Expr → Option E → Bool
  | [], none => true
  | [e], some i => f e i
  | _, _ => false
def keysB : List (Option Expr) → List Str → Bool
  | [], [] => true
  | some (.Constant (.str s) _ _) :: ks, t :: ts => decide (s = t) && keysB ks ts
  | _, _ => false
def notStar : Expr → Bool
  | .Starred _ _ => false
  | _ => true
def notSet : Expr → Bool
  | .Set _ _ _ => false
  | _ => true
def notSlice : Expr → Bool
  | .Slice _ _ _ _ => false
  | _ => true
def notComp : Expr → Bool
  | .ListComp _ _ _ _ => false
  | .SetComp _ _ _ _ => false
  | .DictComp _ _ _ _ _ => false
  | _ => true
/-- an object whose attribute is asked for -/
def objE : Expr → Bool
  | .Name _ _ => true
  | .Attribute _ _ _ => true
  | .Subscript _ _ _ => true
  | _ => false
/-- an object whose method is asked for, a text too -/
def strE : Expr → Bool
  | .Name _ _ => true
  | .Attribute _ _ _ => true
  | .Subscript _ _ _ => true
  | .Constant _ _ _ => true
  | _ => false
def plainT : Expr → Bool
  | .Name _ _ => true
  | .Call _ _ _ _ => true
  | .Subscript _ _ _ => true
  | _ => false
def isTup : Expr → Bool
  | .Tuple _ _ _ => true
  | _ => false
def kindB (sc : Scope) : ScopeKind := if sc.kind.isAnnotationScope then ScopeKind.function else sc.kind
/-- the stores of a, b = x, y: in turn (none), or from the right -/
def swapP (sc : Scope) (ts vs : List Expr) : Option (Option (List Str)) :=
  if (!(ts.length == 2 || ts.length == 3) || vs.length != ts.length || kindB sc != .function) = true then some none
  else if (vs.any fun | .Starred .. => true | _ => false) = true then some none
  else (fun (names : List Str) =>
    if (names.length != ts.length || names.eraseDups.length != names.length) = true then some none
    else if vs.all (foldedForSure 8) = true then some none
    else if vs.all (constantsAlone 8) = true then none
    else some (some names))
    (ts.filterMap fun
      | .Name id pos => if (sc.names.lookup id == some .local && pos.line == (ts.head?.map (·.pos.line)).getD 0) = true then some id else none
      | _ => none)
/-- name = [..] by the short way -/
def swapC (sc scope : Scope) (t : Str) (p cp : Pos) : Bool :=
  kindB sc == .function && sc.names.lookup t == some .local && p.line == cp.line && !(scope.names.any fun (n, k) => n == t && (k == .local || k == .cell))

structure Ck where
  e : CC → Expr → E → Bool
  t : CC → Expr → E → Bool
  g : CC → Expr → Tg → Bool
  i : CC → Expr → Expr → It → Bool
def ownOf (cc : CC) (t : Tg) : List (Str × Nat) := t.slots.map fun i => ((cc.N[i]?).getD "", i)
def okBlt (K : Ck) (cc : CC) (f : Str) : Blt → List Expr → List E → Bool
  | .isi t, [e, .Name g _], [ir] => decide (f = "isinstance") && decide (g = Str.ofString t.name) && cc.glf f && cc.glf g && notStar e && K.e cc e ir
  | .lrange2, [.Call (.Name g _) [a, b] [] _], [ia, ib] => decide (f = "list") && decide (g = "range") && cc.glf f && cc.glf g && notStar a && notStar b && K.e cc a ia && K.e cc b ib
  | .trange2, [.Call (.Name g _) [a, b] [] _], [ia, ib] => decide (f = "tuple") && decide (g = "range") && cc.glf f && cc.glf g && notStar a && notStar b && K.e cc a ia && K.e cc b ib
  | .sortSet, [.Call (.Name g _) [a] [] _], [ia] => decide (f = "sorted") && decide (g = "set") && cc.glf f && cc.glf g && notStar a && K.e cc a ia
  | .lenSet, [.Call (.Name g _) [a] [] _], [ia] => decide (f = "len") && decide (g = "set") && cc.glf f && cc.glf g && notStar a && K.e cc a ia
  | .sortSetT, [.Call (.Name g _) [a] [] _], [ia] => decide (f = "sorted") && decide (g = "set") && cc.glf f && cc.glf g && notStar a && K.e cc a ia
  | b, e :: es, irs => b.plain && decide (f = Str.ofString b.nm.1) && cc.glf f && decide (f ≠ "__name__") && !(f == ("__debug__" : Str)) && (e :: es).all notStar && all2 (K.e cc) (e :: es) irs
  | _, _, _ => false
def okComp (K : Ck) (cc : CC) (elt tg iter : Expr) (ifs : List Expr) (scope : Scope) (ie : E) (t : Tg) (it : It) (c : Option E) : Bool :=
  K.i cc tg iter it && t.plain && blkC cc.N cc.sc scope (ownOf cc t) && notSet iter && K.g (cc.blk scope) tg t && okIfs (K.t (cc.blk scope)) ifs c && K.e (cc.blk scope) elt ie
section
variable (K : Ck) (fns : List Fn) (cc : CC)
def stepE : Expr → E → Bool
  | .Name x _, .var i => cc.var x i
  | .Name x _, .lit d => cc.gl x && !(x == ("__debug__" : Str)) && (match cc.cs.lookup x with
    | some d' => scEq d' d
    | none => false)
  | .Constant c _ _, .lit d => cEq c d
  | .BinOp a op b _, .bin op' ia ib => decide (op = op') && K.e cc a ia && K.e cc b ib
  | .UnaryOp .Not a _, .not ia => K.e cc a ia
  | .UnaryOp .USub a _, .neg ia => K.e cc a ia
  | .Compare a [op] [b] _, .cmp op' ia ib => decide (op = op') && notSet b && K.e cc a ia && K.e cc b ib
  | .Compare a [op, op2] [b, c] _, .chn o1 o2 ia ib ic => decide (op = o1) && decide (op2 = o2) && notSet c && K.e cc a ia && K.e cc b ib && K.e cc c ic
  | .BoolOp .And [a] _, ir => K.e cc a ir
  | .BoolOp .Or [a] _, ir => K.e cc a ir
  | .BoolOp .And (a :: b :: r) p, .and ia ib => K.e cc a ia && K.e cc (.BoolOp .And (b :: r) p) ib
  | .BoolOp .Or (a :: b :: r) p, .or ia ib => K.e cc a ia && K.e cc (.BoolOp .Or (b :: r) p) ib
  | .IfExp c a b _, .ite ic ia ib => K.t cc c ic && K.e cc a ia && K.e cc b ib
  | .Tuple es _ _, .tup irs => es.all notStar && all2 (K.e cc) es irs
  | .List es _, .lst irs => es.all notStar && all2 (K.e cc) es irs
  | .Dict [] [] _, .dct [] [] => true
  | .Dict ks es _, .dct ss irs => keysB ks ss && all2 (K.e cc) es irs && decide (ss ≠ []) && decide (ss.length = es.length) && decide (ss.length ≤ 15)
  | .Subscript a (.Slice lo hi none _) _, .slc ia il ih => K.e cc a ia && okO (K.e cc) lo il && okO (K.e cc) hi ih
  | .Subscript a i _, .idx ia ii => notSlice i && K.e cc a ia && K.e cc i ii
  | .Call (.Name f _) args [] _, .blt b irs => okBlt K cc f b args irs
  | .Call (.Name f _) args [] _, .call g irs => (match fns[g]?, args with
    | some fn, e :: es => decide (fn.name = f) && decide (fn.cls = none) && cc.gl f && !(f == ("__debug__" : Str)) && (e :: es).all notStar && all2 (K.e cc) (e :: es) irs
    | _, _ => false)
  | .Call (.Name f _) [] kws _, .callK g irs pm => (match fns[g]? with
    | some fn => decide (fn.name = f) && decide (fn.cls = none) && cc.gl f && !(f == ("__debug__" : Str)) && kws.all (·.arg.isSome) && decide ((g, kws.filterMap (·.arg), pm) ∈ cc.kw) && decide (irs.length = kws.length) && all2 (K.e cc) (kws.map (·.value)) irs
    | _ => false)
  | .ListComp elt [⟨tg, iter, ifs, 0⟩] scope _, .comp ie t it c => okComp K cc elt tg iter ifs scope ie t it c
  | .Attribute e f _, .att ie g => decide (f = g) && objE e && K.e cc e ie
  | .Call (.Attribute o m ap) [a, b] [] cp, .dget io ia ib => decide (m = "get") && objE o && (ap.endLine == cp.line) && notStar a && notStar b && K.e cc o io && K.e cc a ia && K.e cc b ib
  | .Call (.Attribute o m ap) args [] cp, .meth m' fs io irs => decide (m = m') && objE o && (ap.endLine == cp.line) && decide (args.length < 30) && args.all notStar && K.e cc o io && all2 (K.e cc) args irs
  | .Call (.Name c _) (e :: es) [] _, .new g irs => (match fns[g]? with
    | some fn => decide (fn.cls = some c) && decide (fn.name = "__init__") && cc.gl c && !(c == ("__debug__" : Str)) && (e :: es).all notStar && all2 (K.e cc) (e :: es) irs
    | none => false)
  | .Dict [] [] _, .dnw => true
  | .Dict [some k] [v] _, .dct1 ik iv => K.e cc k ik && K.e cc v iv
  | .Compare a [.NotEq] [.Dict [] [] _] _, .neE ia => K.e cc a ia
  | .Call (.Attribute o m ap) [e] [] cp, .join io ie => decide (m = "join") && strE o && (ap.endLine == cp.line) && notStar e && K.e cc o io && K.e cc e ie
  | .Call (.Attribute o m ap) [e] [] cp, .split io ie => decide (m = "split") && strE o && (ap.endLine == cp.line) && notStar e && K.e cc o io && K.e cc e ie
  | .Compare a [op] [.Name g _] _, .kin neg ia g' l => decide (op = if neg then .NotIn else .In) && decide (g = g') && cc.tab g l && K.e cc a ia
  | .Subscript (.Name g _) i _, .kidx g' l ii => decide (g = g') && cc.tab g l && notSlice i && K.e cc i ii
  | .Call (.Name c _) [e] [] _, .newX c' f ie => decide (c = c') && cc.xmk c f none && cc.gl c && !(c == ("__debug__" : Str)) && notStar e && K.e cc e ie
  | .Call (.Name c _) [] [⟨some p, e, _⟩] _, .newX c' f ie => decide (c = c') && cc.xmk c f (some p) && cc.gl c && !(c == ("__debug__" : Str)) && K.e cc e ie
  | .Call (.Name g _) [e, .Name t _] [] _, .isx ie t' yes no => decide (g = "isinstance") && cc.glf g && decide (t = t') && cc.gl t && cc.isx t yes no && notStar e && K.e cc e ie
  | .BinOp (.List es p) .Mult k _, .lrep irs ik => K.e cc (.List es p) (.lst irs) && K.e cc k ik
  | _, _ => false
def stepT : Expr → E → Bool
  | .UnaryOp .Not a _, .not ia => K.t cc a ia
  | .BoolOp .And [a] _, ir => K.t cc a ir
  | .BoolOp .Or [a] _, ir => K.t cc a ir
  | .BoolOp .And (a :: b :: r) p, .and ia ib => K.t cc a ia && K.t cc (.BoolOp .And (b :: r) p) ib
  | .BoolOp .Or (a :: b :: r) p, .or ia ib => K.t cc a ia && K.t cc (.BoolOp .Or (b :: r) p) ib
  | .Compare a [op] [b] _, .cmp op' ia ib => decide (op = op') && notSet b && K.e cc a ia && K.e cc b ib
  | .Compare a [op, op2] [b, c] _, .chn o1 o2 ia ib ic => decide (op = o1) && decide (op2 = o2) && notSet c && K.e cc a ia && K.e cc b ib && K.e cc c ic
  | .Compare a [.NotEq] [.Dict [] [] _] _, .neE ia => K.e cc a ia
  | .Compare a [op] [.Name g _] _, .kin neg ia g' l => decide (op = if neg then .NotIn else .In) && decide (g = g') && cc.tab g l && K.e cc a ia
  | e, ir => plainT e && K.e cc e ir
def stepG : Expr → Tg → Bool
  | .Name x _, .nm i => cc.loc x i
  | .Tuple es _ _, .tp ts => es.all notStar && decide (es.length = ts.length) && all2 (K.g cc) es ts
  | .Subscript (.Name x _) k _, .sub i ik => cc.var x i && notSlice k && K.e cc k ik
  | .Attribute (.Name x _) f _, .att i g => decide (f = g) && cc.var x i
  | _, _ => false
def stepI (tg : Expr) : Expr → It → Bool
  | .Call (.Name f _) [a] [] _, .rng1 ia => decide (f = "range") && cc.glf f && notStar a && K.e cc a ia
  | .Call (.Name f _) [a, b] [] _, .rng2 ia ib => decide (f = "range") && cc.glf f && notStar a && notStar b && K.e cc a ia && K.e cc b ib
  | .Call (.Name f _) [a] [] _, .enm ia => decide (f = "enumerate") && cc.glf f && isTup tg && notStar a && K.e cc a ia
  | .Call (.Name f _) [a, b] [] _, .zip ia ib => decide (f = "zip") && cc.glf f && isTup tg && notStar a && notStar b && K.e cc a ia && K.e cc b ib
  | .Call (.Name f _) [a, b, c] [] _, .zip3 ia ib ic => decide (f = "zip") && cc.glf f && isTup tg && notStar a && notStar b && notStar c && K.e cc a ia && K.e cc b ib && K.e cc c ic
  | e, .seq ie => K.e cc e ie
  | e, .chars ie => K.e cc e ie
  | _, _ => false
end
def ck (fns : List Fn) : Nat → Ck
  | 0 => ⟨fun _ _ _ => false, fun _ _ _ => false, fun _ _ _ => false, fun _ _ _ _ => false⟩
  | n + 1 => ⟨stepE (ck fns n) fns, stepT (ck fns n), stepG (ck fns n), stepI (ck fns n)⟩
/-! statements -/
def CC.loc1 (cc : CC) (x : Str) (i : Nat) : Bool := decide (cc.N[i]? = some x) && decide (cc.sc.names.lookup x = some .local)
def swapNone (sc : Scope) : Expr → Expr → Bool
  | .Tuple ts _ _, .Tuple vs _ _ => decide (swapP sc ts vs = some none)
  | .Tuple _ _ _, _ => true
  | .Subscript _ _ _, _ => true
  | .Attribute _ _ _, _ => true
  | _, _ => false
def okS (K : Ck) (cc : CC) : Nat → Stmt → S → Bool
  | 0, _, _ => false
  | n + 1, st, ir => match st, ir with
    | .Pass _, .pass => true
    | .Break _, .brk => true
    | .Continue _, .cont => true
    | .Expr (.Constant (.str _) _ _) _, .pass => true
    | .Expr (.Call (.Attribute (.Name x _) m ap) [e] [] cp) _, .app i ie => decide (m = "append") && cc.var x i && (ap.endLine == cp.line) && notStar e && K.e cc e ie
    | .Expr (.Call (.Attribute (.Name x _) m ap) [e] [] cp) _, .ext i ie => decide (m = "extend") && cc.var x i && (ap.endLine == cp.line) && notStar e && K.e cc e ie
    | .Expr e _, .expr ie => notComp e && K.e cc e ie
    | .Return none _, .ret none => true
    | .Return (some e) _, .ret (some ie) => K.e cc e ie
    | .If c a b _, .ite ic ia ib => K.t cc c ic && all2 (okS K cc n) a ia && all2 (okS K cc n) b ib
    | .While c body [] _, .whl ic ib => K.t cc c ic && all2 (okS K cc n) body ib
    | .For tg iter body [] _, .for t it ib => K.i cc tg iter it && K.g cc tg t && notSet iter && all2 (okS K cc n) body ib
    | .Assign [.Name x p] (.ListComp elt [⟨tg, iter, ifs, 0⟩] scope cp) _, .asg (.nm i) (.comp ie t it c) => cc.loc x i && okComp K cc elt tg iter ifs scope ie t it c && (!swapC cc.sc scope x p cp || decide (cc.sc.names.lookup x = some .local))
    | .Assign [.Name x _] e _, .asg (.nm i) ie => cc.loc x i && notComp e && K.e cc e ie
    | .Assign [.Tuple [.Name x px, .Name y py] _ _] (.Tuple [a, b] _ _) _, .par [i, j] [ia, ib] => cc.loc1 x i && cc.loc1 y j && decide (i ≠ j) && decide (swapP cc.sc [.Name x px, .Name y py] [a, b] = some (some [x, y])) && [a, b].all notStar && all2 (K.e cc) [a, b] [ia, ib]
    | .Assign [.Tuple [.Name x px, .Name y py, .Name z pz] _ _] (.Tuple [a, b, c] _ _) _, .par [i, j, l] [ia, ib, ic] => cc.loc1 x i && cc.loc1 y j && cc.loc1 z l && decide (i ≠ j) && decide (i ≠ l) && decide (j ≠ l) &&
      decide (swapP cc.sc [.Name x px, .Name y py, .Name z pz] [a, b, c] = some (some [x, y, z])) && [a, b, c].all notStar && all2 (K.e cc) [a, b, c] [ia, ib, ic]
    | .Assign [tg] e _, .asg t ie => (!t.isNm) && swapNone cc.sc tg e && K.e cc e ie && K.g cc tg t
    | .AugAssign (.Name x _) op e _, .aug i op' ie => decide (op = op') && cc.loc x i && K.e cc e ie
    | .AugAssign (.Attribute (.Name x _) f _) op e _, .augA i g op' ie => decide (op = op') && decide (f = g) && cc.var x i && K.e cc e ie
    | .For tg (.Name x _) body [] _, .forK t i none ib => cc.var x i && K.g cc tg t && all2 (okS K cc n) body ib
    | .For tg (.Attribute (.Name x _) f _) body [] _, .forK t i (some g) ib => decide (f = g) && cc.var x i && K.g cc tg t && all2 (okS K cc n) body ib
    | .Raise (some (.Call (.Name c _) [e] [] _)) none _, .raise c' f ie => decide (c = c') && cc.xmk c f none && cc.gl c && !(c == ("__debug__" : Str)) && notStar e && K.e cc e ie
    | _, .never => true
    | _, _ => false
/-- a def's text -/
def okFn (fns : List Fn) (n : Nat) (cs : List (Str × D)) (fr : List Str) (kw : List (Nat × List Str × List Nat)) (xx : Xs) (sc : Scope) (body : List Stmt) (fn : Fn) : Bool :=
  all2 (okS (ck fns n) ⟨fn.ns, sc, fun _ => true, cs, fr, kw, xx⟩ n) body fn.body

/-! ### small facts of the model's text -/
section
variable {env : PySem.Env}
theorem star_cons {e : Expr} {es : List Expr} (h : notStar e = true) : starEach (e :: es) env = (false, eval e env) :: starEach es env := by
  cases e <;> first | rfl | cases h
theorem star_any {pos : Pos} : ∀ {es : List Expr}, es.all notStar = true → (backTo pos (starEach es env)).any (·.1) = false
  | [], _ => rfl
  | e :: es, h => by
    simp only [List.all_cons, Bool.and_eq_true] at h
    rw [star_cons h.1]
    show (false || (backTo pos (starEach es env)).any (·.1)) = false
    rw [star_any h.2]
    rfl
theorem asgE_cons {e : Expr} {es : List Expr} (h : notStar e = true) : assignEach (e :: es) env = (false, assign e env) :: assignEach es env := by
  cases e <;> first | rfl | cases h
theorem asgE_len : ∀ {es : List Expr}, es.all notStar = true → (assignEach es env).length = es.length
  | [], _ => rfl
  | e :: es, h => by
    simp only [List.all_cons, Bool.and_eq_true] at h
    rw [asgE_cons h.1, List.length_cons, asgE_len h.2, List.length_cons]
theorem asgE_idx : ∀ {es : List Expr}, es.all notStar = true → (assignEach es env).findIdx? (·.1) = none := by
  intro es h
  rw [List.findIdx?_eq_none_iff]
  induction es with
  | nil => intro x hx; exact nomatch hx
  | cons e es ih =>
    simp only [List.all_cons, Bool.and_eq_true] at h
    rw [asgE_cons h.1]
    intro x hx
    rcases List.mem_cons.mp hx with z | z
    · rw [z]
    · exact ih h.2 x z
theorem plain_true {e : Expr} (h : plainT e = true) : ∀ whole, isTrue e env whole = (do let v ← whole; standAt e.pos; holding [v] (truthy v)) := by
  intro whole
  cases e <;> first | rfl | cases h
theorem plain_ix {e : Expr} (h : notSlice e = true) : PlainIx e := by
  intro o i
  cases e <;> first | rfl | cases h
theorem folded {e : Expr} (h : notSet e = true) : ∀ x, foldedSetIterable e env x = pure x := by
  intro x
  cases e <;> first | rfl | cases h
theorem marks {op : CmpOp} {e : Expr} (h : notSet e = true) : behindInMarks op e = false := by
  cases e <;> first | rfl | cases h
theorem swaps_no {e : Expr} {t : Option Expr} {l : Nat} (h : notComp e = true) : swapsWith e t l env = pure false := by
  cases e <;> first | rfl | cases h
theorem swaps_tup {e : Expr} {ts : List Expr} {k : Nat} {p : Pos} {l : Nat} : swapsWith e (some (.Tuple ts k p)) l env = pure false := by
  cases e <;> rfl
theorem swaps_sub {e a b : Expr} {p : Pos} {l : Nat} : swapsWith e (some (.Subscript a b p)) l env = pure false := by
  cases e <;> rfl
theorem swaps_att {e a : Expr} {f : Str} {p : Pos} {l : Nat} : swapsWith e (some (.Attribute a f p)) l env = pure false := by
  cases e <;> rfl
theorem base_ok {e : Expr} {f : Str} (h : objE e = true) : attributeBase e f env (eval e env) = eval e env := by
  cases e <;> first | rfl | cases h
theorem base_str {e : Expr} {f : Str} (h : strE e = true) : attributeBase e f env (eval e env) = eval e env := by
  cases e <;> first | rfl | cases h
theorem tkvEq_ok : ∀ {l m : List (Key × D)}, tkvEq l m = true → l = m
  | [], [], _ => rfl
  | [], _ :: _, h => nomatch h
  | (.inr x, .int i) :: l, [], h => nomatch h
  | (.inr x, .int i) :: l, (.inr y, .int j) :: m, h => by
    have h : (decide (x = y) && decide (i = j) && tkvEq l m) = true := h
    simp only [Bool.and_eq_true, decide_eq_true_eq] at h
    rw [h.1.1, h.1.2, tkvEq_ok h.2]
  | (.inr x, .int i) :: l, (.inl y, _) :: m, h => nomatch h
theorem meth_ht {o : Expr} {m : Str} {ap cp : Pos} {args : List Expr} (h2 : objE o = true) (hl : (ap.endLine == cp.line) = true) (hn : args.length < 30) (hs : args.all notStar = true) : eval (.Call (.Attribute o m ap) args [] cp) env = (do
      let ov ← eval o env
      standAt ap.atName
      let (f, first) ← holding [ov] (getMethod ov m (do return (← importBound o env).getD true))
      callWith cp f first (backTo cp (starEach args env)) (backToKw cp (keywordEach [] env))) := by
  have e1 : eval (.Call (.Attribute o m ap) args [] cp) env = (do
      let ov ← attributeBase o m env (eval o env)
      standAt ap.atName
      methodCall o m ap cp env ov (args.length + ([] : List Keyword).length) (backTo cp (starEach args env)) (backToKw cp (keywordEach [] env))) := rfl
  have hf : methodCallForm (args.length + ([] : List Keyword).length) (backTo cp (starEach args env)) (backToKw cp (keywordEach [] env)) = true := by
    have ha : (backTo cp (starEach args env)).all (fun x => !x.1) = true := by
      have := star_any (env := env) (pos := cp) hs
      rw [List.any_eq_false] at this
      rw [List.all_eq_true]
      intro x hx
      have := this x hx
      cases q : x.1 with
      | true => exact absurd q this
      | false => rfl
    unfold methodCallForm
    have hb : (backToKw cp (keywordEach [] env)).all (·.1.isSome) = true := rfl
    have hc : decide (args.length + ([] : List Keyword).length + (if (backToKw cp (keywordEach [] env)).isEmpty = true then 0 else 1) < 30) = true := decide_eq_true hn
    rw [ha, hb, hc]
    rfl
  rw [e1, base_ok h2]
  unfold methodCall
  rw [hf]
  have e2 : methodCallPos true o env ap cp = pure cp := by
    unfold methodCallPos
    rw [hl]
    rfl
  rw [e2]
  rfl
theorem swaps_comp {sc scope : Scope} {elt : Expr} {gs : List Comprehension} {t : Str} {p cp : Pos} {l : Nat} (h : env.scope = sc) : swapsWith (.ListComp elt gs scope cp) (some (.Name t p)) l env = pure (swapC sc scope t p cp) := by
  subst h
  rfl
theorem asg_sub {o k : Expr} {pos : Pos} (h : notSlice k = true) : ∀ v, assign (.Subscript o k pos) env v = (do
      let ov ← holding [v] (eval o env)
      let iv ← holding [v, ov] (eval k env)
      standAt pos
      holding [v, ov, iv] (setItem ov iv v)
      release [v, ov, iv] []) := by
  intro v
  cases k <;> first | rfl | cases h
theorem swap_is {sc : Scope} {ts vs : List Expr} {k k2 : Nat} {p p2 : Pos} {r : Option (List Str)} (h : env.scope = sc) (q : swapP sc ts vs = some r) : swappedStores [.Tuple ts k p] (.Tuple vs k2 p2) env = pure r := by
  subst h
  unfold swapP at q
  unfold swappedStores
  by_cases c1 : (!(ts.length == 2 || ts.length == 3) || vs.length != ts.length || kindB env.scope != .function) = true
  · rw [if_pos c1] at q
    cases q
    exact if_pos c1
  · rw [if_neg c1] at q
    refine (if_neg c1).trans ?_
    by_cases c2 : (vs.any fun | .Starred .. => true | _ => false) = true
    · rw [if_pos c2] at q
      cases q
      exact if_pos c2
    · rw [if_neg c2] at q
      refine (if_neg c2).trans ?_
      simp only at q
      have key : ∀ names : List Str, (if (names.length != ts.length || names.eraseDups.length != names.length) = true then some none else if vs.all (foldedForSure 8) = true then some none else if vs.all (constantsAlone 8) = true then none else some (some names)) = some r →
          (if (names.length != ts.length || names.eraseDups.length != names.length) = true then (pure none : Sem (Option (List Str))) else if vs.all (foldedForSure 8) = true then pure none else if vs.all (constantsAlone 8) = true then (do let _ ← (unsupported "assign.tuple-of-constant-expressions:order-of-the-stores" : Sem PUnit); pure (some names)) else pure (some names)) = pure r := by
        intro names q
        split at q
        · cases q; rw [if_pos (by assumption)]
        · rw [if_neg (by assumption)]
          split at q
          · cases q; rw [if_pos (by assumption)]
          · rw [if_neg (by assumption)]
            split at q
            · cases q
            · cases q; rw [if_neg (by assumption)]
      exact key _ q
theorem swaps_sole {t v : Expr} {l : Nat} : swapsWithSole [t] v l env = swapsWith v (some t) l env := rfl
theorem swap_shape {sc : Scope} {tg e : Expr} (q : swapNone sc tg e = true) : (∃ ts k p, tg = .Tuple ts k p) ∨ (∃ a b p, tg = .Subscript a b p) ∨ ∃ a b p, tg = .Attribute a b p := by
  cases tg with
  | Tuple ts k p => exact .inl ⟨ts, k, p, rfl⟩
  | Subscript a b p => exact .inr (.inl ⟨a, b, p, rfl⟩)
  | Attribute a b p => exact .inr (.inr ⟨a, b, p, rfl⟩)
  | _ => exact nomatch q
theorem swap_none {sc : Scope} {tg e : Expr} (h : env.scope = sc) (q : swapNone sc tg e = true) : swappedStores [tg] e env = pure none := by
  cases tg with
  | Tuple ts k p =>
    cases e with
    | Tuple vs k2 p2 =>
      have q : decide (swapP sc ts vs = some none) = true := q
      exact swap_is h (of_decide_eq_true q)
    | _ => rfl
  | Subscript a b p => cases e <;> rfl
  | Attribute a b p => cases e <;> rfl
  | _ => exact nomatch q
end
end PB

/-! PXa -/
/-! PX, part A: errors of the program's own: made. -/
namespace PB
open PySem L2 PySem.Spec PyProof.Rows

/-! ### own classes, then a base's -/
def refsB (bmB : List Value) : List Value → Bool
  | .ref _ :: r => refsB bmB r
  | l => l == bmB
theorem refsB_cases {bmB : List Value} (l : List Value) (h : refsB bmB l = true) : (∃ c r, l = .ref c :: r ∧ refsB bmB r = true) ∨ l = bmB := by
  unfold refsB at h
  split at h
  · exact .inl ⟨_, _, rfl, h⟩
  · exact .inr (beq_iff_eq.mp h)
theorem refsB_pass {B : String} {bmB : List Value} (SF : StoreFacts B bmB "object.__setattr__" "object") (self : Value) : ∀ l : List Value, refsB bmB l = true → refuseLoop self "__setattr__" l = pure () := by
  intro l
  induction l with
  | nil =>
    intro e
    rcases refsB_cases [] e with ⟨c, r', q, h⟩ | q
    · cases q
    · rw [q]; exact SF.passes self
  | cons a r ih =>
    intro e
    rcases refsB_cases (a :: r) e with ⟨c, r', q, h⟩ | q
    · obtain ⟨rfl, rfl⟩ := List.cons.inj q
      rw [refuseLoop_ref]; exact ih h
    · rw [q]; exact SF.passes self
theorem refsB_contains {bmB : List Value} (X : String) : ∀ l : List Value, refsB bmB l = true → l.contains (.type X) = bmB.contains (.type X) := by
  intro l
  induction l with
  | nil =>
    intro e
    rcases refsB_cases [] e with ⟨c, r', q, h⟩ | q
    · cases q
    · rw [q]
  | cons a r ih =>
    intro e
    rcases refsB_cases (a :: r) e with ⟨c, r', q, h⟩ | q
    · obtain ⟨rfl, rfl⟩ := List.cons.inj q
      rw [List.contains_cons, ih h]; rfl
    · rw [q]
structure XBase (B newId initId : String) (bmB : List Value) : Prop where
  F : ExcBaseFacts B newId initId bmB
  SF : StoreFacts B bmB "object.__setattr__" "object"
abbrev bmVE : List Value := [.type "ValueError", .type "Exception", .type "BaseException", .type "object"]
abbrev bmOE : List Value := [.type "OverflowError", .type "ArithmeticError", .type "Exception", .type "BaseException", .type "object"]
abbrev bmRE : List Value := [.type "RuntimeError", .type "Exception", .type "BaseException", .type "object"]
theorem xb_VE : XBase "ValueError" "ValueError.__new__" "ValueError.__init__" bmVE := ⟨F.excBase_ValueError, F.store_ValueError⟩
theorem xb_OE : XBase "OverflowError" "OverflowError.__new__" "OverflowError.__init__" bmOE := ⟨F.excBase_OverflowError, F.store_OverflowError⟩
theorem xb_RE : XBase "RuntimeError" "RuntimeError.__new__" "RuntimeError.__init__" bmRE := ⟨F.excBase_RuntimeError, F.store_RuntimeError⟩

/-! ### self.name = v, the first one -/
section
open Builtin Builtin.ObjectAttr PySem.HandSPX
variable {prog : Program} {w : World} {A : Around} {E : Value → Shared → Prop} {R : Result → Shared → Prop} {hp : Heap} {g : Array GenState} {d : Drawn} {t : Nat} {os : OsState}
theorem osaB {K : W.Frag} {name : Str} {tk : Tok} {v : Value} {x C : Addr} {fv : Array Value} {cd : ClassData} {B : String} {bmB : List Value} (BF : StoreFacts B bmB "object.__setattr__" "object")
    (X : K.In hp) (hx : hp.get? x = some { cls := .ref C, data := .fields fv }) (hcd : W.clsIn K C = some cd) (hm : refsB bmB cd.mro = true) (hh : cd.hasDict = true) (ha : W.findIn K (.ref C) name = some none)
    (hq : ∀ h' tk' dx, (∀ b o, b ≠ x → hp.get? b = some o → h'.get? b = some o) → hp.objs.size ≤ dx → dx ≠ x → h'.get? x = some { cls := .ref C, dict := some dx, data := .fields fv } →
      h'.Ns1 dx (fun y => if y = name then some v else none) → R (.ok (.ret .none)) ⟨h', g, d, tk', os⟩) :
    codeAny (model prog w) A (.call (.builtin "object.__setattr__") ⟨[.ref x, .str name tk, v], []⟩) R ⟨hp, g, d, t, os⟩ := by
  have I : W.InstAt hp x { cls := .ref C, data := .fields fv } C none := ⟨hx, rfl, rfl, trivial⟩
  have SF := F.store_object
  have hob : cd.mro.contains (.type "object") = true := (refsB_contains "object" _ hm).trans BF.hasOwner
  have ne : cd.mro.isEmpty = false := by
    cases q : cd.mro with
    | nil => rw [q] at hob; exact absurd hob (by decide)
    | cons _ _ => rfl
  have hxs : x ≠ hp.objs.size := Nat.ne_of_lt (Heap.lt_size hx)
  have sub : W.Looks (model prog w) hp (isInstance (.ref x) (.type "object")) true := I.type.andThen (W.looks_mroIn X (by unfold W.mroIn; rw [hcd, Option.bind_some, if_neg (by rw [ne]; decide), hob]))
  refine codeAny_call_builtin SF.slot.plain SF.entry (@W.check_slot (model prog w) _ _ ⟨hp, g, d, t, os⟩ "object.__setattr__" "object" "__setattr__" (.ref x) [.str name tk, v] [] _ SF.kind SF.split sub (SF.args (.ref x) (.str name tk) v) ?_)
  have hmr : W.Looks (model prog w) hp (mroOf (.ref C)) cd.mro := (W.looks_clsIn X hcd).andThen .now
  have L3 : W.Looks (model prog w) hp (storeTaker? none) none := .now
  have hcls : W.Looks (model prog w) hp (classData C) cd := W.looks_clsIn X hcd
  rw [W.osa_eq, refuse_eq]
  refine wpAny_bind (wpAny_bind (I.type.at (wpAny_bind (hmr.at ?_))))
  rw [refsB_pass BF _ _ hm]
  refine wpAny_pure (wpAny_bind (I.type.at (wpAny_bind ((W.looks_findIn X ha).at (wpAny_bind (L3.at ?_))))))
  show wpAny _ _ (storeInOwnDict (.ref x) (.ref C) (.str name tk) name v false) _ _ _
  obtain ⟨nm, bs, mro, ns, qn, hd, sn, sb, ab, col, del⟩ := cd
  dsimp only at hh
  subst hh
  unfold storeInOwnDict ownDictForStores
  repeat (first | with_reducible refine store_in_new ?_ ?_ | with_reducible refine wpAny_loadPart_at hx ?_ | with_reducible refine hcls.at ?_ | wp_step)
  · exact ⟨_, #[], _, (Heap.get?_update_ne _ _ _ _ hxs.symm).trans (Heap.get?_push_at rfl rfl), rfl, fun e he => absurd he (by simp), fun _ => rfl⟩
  · intro h' tk' hn' hs
    have hx₁ : (hp.push { cls := .type "dict", data := .dict #[] }).get? x = some { cls := .ref C, data := .fields fv } := Heap.get?_push_of_some _ hx
    refine hq h' tk' hp.objs.size (fun b o hb ho => ?_) (Nat.le_refl _) hxs.symm ?_ hn'
    · exact (hs.2 b (Nat.ne_of_lt (Heap.lt_size ho))).trans ((Heap.get?_update_ne _ _ _ _ hb).trans (Heap.get?_push_of_some _ ho))
    · exact (hs.2 x hxs).trans (Heap.get?_update_self _ hx₁ rfl)
end
/-- what the written part says of an error's class -/
structure XcK (K : PySem.W.Frag) (C : Addr) (initId : String) : Prop where
  cls : ∃ B newId bmB nm q N bs bm sn sub ab col dd k0 k1 k2 k3 k5, XBase B newId initId bmB ∧ K.lookup C = some (excClassObj nm q C N bs bm true sn sub ab col dd k0 k1 k2 k3 k5 newId) ∧ refsB bmB bm = true
  sa : PySem.W.findIn K (.ref C) "__setattr__" = some (some (.builtin "object.__setattr__"))
  exC : PySem.W.subIn K (.ref C) (.type "BaseException") = some true
  tyC : PySem.W.typeIn K (.ref C) = some (.type "type")
  kC : PySem.W.keepIn K (.ref C) = true
section
variable {X : Cx} {pins : List (Addr × Obj)} {σ : L2.St} {H : Hp} {s : Shared} {a C dx : Addr} {f : Str} {y : V} {u : Value} {id : String}
theorem ost_newB {Q : Unit → Shared → Prop} {E : Value → Shared → Prop} {A : Around} (T : XcK X.K C id) (I : Inv X pins σ H s) (e : H a = some (exo a C none)) (hno : PySem.W.findIn X.K (.ref C) f = some none) (ry : RelV y u)
    (h : ∀ dx s', H dx = none → dx ≠ a → Inv X pins σ (upd (upd H dx (exd dx [(f, y)])) a (exo a C (some dx))) s' → Q () s') : wpAny (model X.prog X.w) A (setAttr (.ref a) f u) Q E s := by
  obtain ⟨B, newId, bmB, nm, q, N, bs, bm, sn, sub, ab, col, dd, k0, k1, k2, k3, k5, XB, hC, hbm⟩ := T.cls
  have hcl : PySem.W.clsIn X.K C = some { name := nm, bases := bs, mro := .ref C :: bm, ns := N, qualname := q, hasDict := true, slotNames := sn, subclasses := sub, abstract := ab, collection := col, hasDel := false } := by unfold PySem.W.clsIn; rw [hC] <;> rfl
  obtain ⟨t1, ho⟩ := exo_at I.hok e
  obtain ⟨hp, g, d, t, os⟩ := s
  refine PySem.W.set_plain I.kIn (ox := { cls := .ref C, dict := none, data := .fields #[.ref t1, .none, .none, .none, .bool false, .none] }) (od := none) ⟨ho, rfl, rfl, trivial⟩ T.sa ?_
  refine osaB XB.SF I.kIn ho hcl (show refsB bmB (.ref C :: bm) = true from hbm) rfl hno (fun h' tk' dx k dn dne hx hn => ?_)
  have hnd : H dx = none := I.hok.fresh dn
  have nd : ∀ {b : Addr} {o : Obj}, hp.get? b = some o → b ≠ dx := fun {b o} q => Nat.ne_of_lt (Nat.lt_of_lt_of_le (Heap.lt_size q) dn)
  have na : ∀ {b : Addr}, H b = none → b ≠ a := fun {b} n z => by
    rw [z, e] at n
    cases n
  have Un1 : Un X.fs [] H (upd (upd H dx (exd dx [(f, y)])) a (exo a C (some dx))) hp h' := {
    keep := fun b o q n _ _ => k b o (na n) q
    slot := fun b o q n _ _ => ⟨o.slots, k b o (na n) q⟩
    free := fun b o q n _ => by rw [upd_ne (na n), upd_ne (nd q)]; exact n
    there := fun b o q _ => by
      by_cases hb : b = a
      · exact ⟨_, by rw [hb]; exact hx⟩
      · exact ⟨o, k b o hb q⟩
    tups := fun b xs q => by rw [upd_ne (at_ne e q exo_tup), upd_ne (ne_of_none q hnd)]; exact q
    frzs := fun b o v q => by rw [upd_ne (at_ne e q exo_frz), upd_ne (ne_of_none q hnd)]; exact q
    tbls := fun b ps q => ⟨#[], by rw [upd_ne (at_ne e q exo_tbl), upd_ne (ne_of_none q hnd), q]; simp⟩ }
  refine h dx _ hnd dne (I.un (t' := tk') Un1 fun b o q => ?_)
  by_cases hb : b = a
  · subst hb
    rw [upd_same] at q
    cases q
    exact exo_ok hx
  · rw [upd_ne hb] at q
    by_cases hd : b = dx
    · subst hd
      rw [upd_same] at q
      cases q
      exact exd_ok hn (relO_put (fs := []) ry fun g => True.intro)
    · rw [upd_ne hd] at q
      exact (I.hok b o q).stay (fun c v hc z => k c v (by
          rcases hc with hc | hc
          · rw [hc]
            exact hb
          · exact at_ne e hc exo_own) z)
        (fun c hc => by rw [upd_ne (at_ne e hc exo_own), upd_ne (ne_of_none hc hnd)]; exact hc) (fun c xs hc => by rw [upd_ne (at_ne e hc exo_tup), upd_ne (ne_of_none hc hnd)]; exact hc)
theorem oinit_okB {us : List Value} {Q : Value → Shared → Prop} {E : Value → Shared → Prop} {A : Around} (T : XcK X.K C id) (I : Inv X pins σ H s) (e : H a = some (exo a C none)) (hl : us.length ≤ sizeLine) (h : ∀ s', Inv X pins σ H s' → Q .none s') :
    wpAny (model X.prog X.w) A (call (.builtin id) (.ref a :: us)) Q E s := by
  obtain ⟨B, newId, bmB, nm, q, N, bs, bm, sn, sub, ab, col, dd, k0, k1, k2, k3, k5, XB, hC, hbm⟩ := T.cls
  obtain ⟨t1, ho⟩ := exo_at I.hok e
  obtain ⟨hp, g, d, t, os⟩ := s
  refine wpAny_call (PySem.HandSPX.init_base XB.F (fun Y => refsB_contains Y bm hbm) (I.kIn _ _ hC) ho hl fun h' t2 k hx => ?_)
  have J := I.write (t' := t) (x := a) (e := a) (o := exo a C none) (by rw [e]; exact True.intro) (.inl rfl) k ⟨_, hx⟩ (exo_ok hx)
  have eu : upd H a (exo a C none) = H := by
    funext b
    by_cases hb : b = a
    · rw [hb, upd_same, e]
    · rw [upd_ne hb]
  rw [eu] at J
  exact h _ J
end
/-! ### BASE.__init__(self, ..) -/
/-- what BASE.__init__ is -/
def InitK (K : PySem.W.Frag) (mg : Str → Option Value) (b : Str) (id : String) : Prop := (b == ("__debug__" : Str)) = false ∧ PySem.W.handedIn (.builtin id) = true ∧
  ((∃ (CB : Addr) (mc : Value), mg b = some (.ref CB) ∧ PySem.W.readsIn K CB mc = true ∧ PySem.W.specialIn K (.ref CB) "__getattribute__" = some (some (.builtin "type.__getattribute__")) ∧ PySem.W.findCls K (.ref CB) mc "__init__" = some (.val (.builtin id))) ∨
    ∃ B : String, mg b = none ∧ b ≠ "__name__" ∧ bootBuiltins b = some (.type B) ∧ typeOf (.type B) = pure (.type "type") ∧ Manifest.isStub B = false ∧ PySem.W.findCls K (.type B) (.type "type") "__init__" = some (.val (.builtin id)))
def tBI (K : PySem.W.Frag) (id : String) (ta : TA) : TE := fun σ H Q => ta σ H fun vs H1 => ∃ (a C : Addr) (ws : List V), vs = .ref a :: ws ∧ ws.length ≤ 1000 ∧ XcK K C id ∧ H1 a = some (exo a C none) ∧ Q .non H1
theorem pe_binit {X : Cx} {b : Str} {id : String} {e : Expr} {es : List Expr} {ta : TA} {p ap cp : Pos} (hg : Gl X b) (hI : InitK X.K X.mg b id) (ha : PA X (e :: es) ta) (hl : (ap.endLine == cp.line) = true) (hn : (e :: es).length < 30) (hs : (e :: es).all notStar = true) :
    PE X (.Call (.Attribute (.Name b p) "__init__" ap) (e :: es) [] cp) (tBI X.K id ta) := by
  refine ⟨fun pins s σ H Q I h => ?_⟩
  simp only [List.all_cons, Bool.and_eq_true] at hs
  obtain ⟨hdb, hh, hI⟩ := hI
  have fin : ∀ s', Inv X pins σ H s' → wpAny (model X.prog X.w) X.A (callWith cp (Value.builtin id) [] (backTo cp (starEach (e :: es) X.env)) (backToKw cp (keywordEach [] X.env))) (EP X pins σ Q) X.xe s' := fun s' I' => by
    show wpAny _ _ (callWith cp (Value.builtin id) [] (backTo cp (starEach (e :: es) X.env)) []) _ _ _
    refine PyProof.Rows.callWith_method1 (thn (ha.run cp pins _ σ H _ I' h) fun us s1 ⟨vs, H1, I1, r1, a, C, ws, ev, hl, T, ea, q⟩ => ?_) (star_cons hs.1) (star_any hs.2)
    subst ev
    cases r1 with
    | @cons _ u0 _ ur ra rw' =>
      obtain rfl : u0 = Value.ref a := ra
      have hlen : ur.length ≤ sizeLine := by
        rw [← Paired.length rw', sizeLine_eq]
        omega
      exact oinit_okB T I1 ea hlen fun s' J => ⟨.non, H1, J, rfl, q⟩
  rcases hI with ⟨CB, mc, hm, hr, hsp, hf⟩ | ⟨B, hm, hnn, hv, ht, hst, hf⟩
  · refine PySem.W.methodCall_KW (ld_glob I hg hm ?_ hdb) (meth_ht rfl hl hn (by rw [List.all_cons, hs.1, hs.2]; rfl))
    refine PySem.W.method_cls I.kIn hsp (PySem.W.cls_value I.kIn hr hf hh ?_)
    exact fin _ (I.tok _)
  · refine PySem.W.methodCall_KW (ld_blt I hg hm hv ?_ hnn hdb) (meth_ht rfl hl hn (by rw [List.all_cons, hs.1, hs.2]; rfl))
    obtain ⟨m, fr⟩ := I.fr
    refine PySem.W.method_type fr I.ok.mod.kin ht hst hf hh ?_
    exact fin _ (I.tok _)
/-- self.f = e -/
def tOstB (K : PySem.W.Frag) (f : Str) (id : String) (to te : TE) : TS := fun D σ H => te σ H fun y H1 => to σ H1 fun x H2 => ∃ a C : Addr, x = .ref a ∧ XcK K C id ∧ PySem.W.findIn K (.ref C) f = some none ∧ H2 a = some (exo a C none) ∧ ∀ dx, H2 dx = none → dx ≠ a → D.nx σ (upd (upd H2 dx (exd dx [(f, y)])) a (exo a C (some dx)))
theorem ps_ostB {X : Cx} {o e : Expr} {to te : TE} {f : Str} {id : String} {p' pos : Pos} (ho : PE X o to) (he : PE X e te) (hs : swapsWith e (some (.Attribute o f p')) pos.line X.env = pure false) : PS X (.Assign [.Attribute o f p'] e pos) (tOstB X.K f id to te) := by
  refine ⟨fun pins s σ H D I h => ?_⟩
  refine plainObj_wpAny_Assign_Attribute (thn (he.run pins s σ H _ I h) fun v s1 ⟨y, H1, I1, r1, q1⟩ => thn (ho.run pins s1 σ H1 _ I1 q1) fun u s2 ⟨x, H2, I2, r2, a, C, ex, T, hno, ea, q⟩ => ?_) hs
  subst ex
  obtain rfl : u = Value.ref a := r2
  exact ost_newB T I2 ea hno r1 fun dx s' n ne J => ⟨σ, _, J, q dx n ne⟩
end PB

/-! PXb -/
/-! PX, part B: an error's class with its def __init__; an error made, as a value, or raised. -/
namespace PB
open PySem L2 PySem.Spec PyProof.Rows

def initB (x : Xc) (sc : Scope) : List Stmt → Bool
  | [.Expr (.Call (.Attribute (.Name b _) m ap) [.Name s1 _, .Constant (.str _) _ _] [] cp) _, .Assign [.Attribute (.Name s2 _) f _] (.Name p _) _] =>
    decide (b = x.b) && decide (m = "__init__") && decide (s1 = x.slf) && decide (s2 = x.slf) && decide (f = x.f) && decide (p = x.prm) && (ap.endLine == cp.line) && decide (sc.names.lookup x.b = some .globalImplicit) &&
      decide (sc.names.lookup x.slf = some .local) && decide (sc.names.lookup x.prm = some .local) && !(x.slf == ("__debug__" : Str)) && !(x.slf == ("__classdict__" : Str)) && !(x.prm == ("__debug__" : Str)) && !(x.prm == ("__classdict__" : Str))
  | _ => false
structure XcD (K : PySem.W.Frag) (mg : Str → Option Value) (x : Xc) : Prop where
  fun_ : ∃ (id : String) (fI : Addr) (fd : FuncData) (qual : Str) (params : Arguments) (body : List Stmt) (scope : Scope), XcK K (He.ga K x.c) id ∧ InitK K mg x.b id ∧ PySem.W.findIn K (.ref (He.ga K x.c)) "__init__" = some (some (.ref fI)) ∧ PySem.W.typeIn K (.ref fI) = some (.type "function") ∧
    FunD K "__init__" qual params body scope [] [] fI fd ∧ FnScope [x.slf, x.prm] [x.slf, x.prm] scope ∧ initB x scope body = true ∧ Binds K fd [x.slf, x.prm] [] ∧ ∀ (s : Shared) (u v : Value), BindsTo s fd ⟨[u], [(x.prm, v)]⟩ ([x.slf, x.prm].zip [u, v])
  mgc : mg x.c = some (.ref (He.ga K x.c))
  no : PySem.W.findIn K (.ref (He.ga K x.c)) x.f = some none
  xf : XcC K (He.ga K x.c)
section
variable {P : Program} {w : World} {K : PySem.W.Frag} {mg : Str → Option Value} {base : Heap}
/-- the def __init__ runs -/
theorem x_run {x : Xc} {id : String} {C fI a : Addr} {fd : FuncData} {qual : Str} {params : Arguments} {body : List Stmt} {scope : Scope} {A : Around} {outer : List PySem.Env} {s : Shared} {H : Hp} {args : Args} {u : Value} {v : V} (T : XcK K C id) (hI : InitK K mg x.b id) (no : PySem.W.findIn K (.ref C) x.f = some none)
    (F : FunD K "__init__" qual params body scope [] [] fI fd) (S : FnScope [x.slf, x.prm] [x.slf, x.prm] scope) (hB : initB x scope body = true) (hr : Room 1 A) (e0 : Env0 P w K mg base A outer s H) (hb : BindsTo s fd args ([x.slf, x.prm].zip [.ref a, u])) (rv : RelV v u)
    (ha : H a = some (exo a C none)) : codeAny (model P w) A (.call (.ref fI) args) (CR (CX P w) outer P w H s (fun r H2 => r = .non ∧ ∃ dx, H dx = none ∧ dx ≠ a ∧ H2 = upd (upd H dx (exd dx [(x.f, v)])) a (exo a C (some dx))) (fun _ _ _ => False)) s := by
  obtain ⟨oc, od, dV, kV, doc, pm, an, cdv, ct, osl, rfl, lk, hcd, _, _⟩ := F.ex
  refine LamX.run_ofS (N := [x.slf, x.prm]) (ps := [x.slf, x.prm]) (us := [.ref a, u]) (vs := [.ref a, v]) lk hcd S (k := 0) hr e0 hb (.cons rfl (.cons rv .nil)) rfl fun hr' => ?_
  unfold initB at hB
  split at hB
  · rename_i b pb m ap s1 ps1 msg j pj cp pe s2 ps2 f pf p pp pa
    simp only [Bool.and_eq_true, decide_eq_true_eq, Bool.not_eq_true'] at hB
    obtain ⟨⟨⟨⟨⟨⟨⟨⟨⟨⟨⟨⟨⟨h1, h2⟩, h3⟩, h4⟩, h5⟩, h6⟩, h7⟩, h8⟩, h9⟩, h10⟩, h11⟩, h12⟩, h13⟩, h14⟩ := hB
    subst h1 h2 h3 h5 h6
    rw [h4]
    refine ⟨_, pss_cons (ps_expr (pe_binit (id := id) h8 hI (pa_cons (pe_var (i := 0) rfl (.inl h9) h11 h12) (pa_cons pe_str pa_nil)) h7 (show 2 < 30 by decide) rfl)) (pss_one (ps_ostB (id := id) (pe_var (i := 0) rfl (.inl h9) h11 h12) (pe_var (i := 1) rfl (.inl h10) h13 h14) rfl)), ?_⟩
    refine ⟨.ref a, rfl, a, C, [.str msg], rfl, (show 1 ≤ 1000 by decide), T, ha, ?_⟩
    refine ⟨v, rfl, .ref a, rfl, a, C, rfl, T, no, ha, fun dx hd hne => ⟨rfl, dx, hd, hne, rfl⟩⟩
  · cases hB
end
/-- behind the making: the error at a, not in the abstract heap; its dict is -/
def Made (X : Cx) (pins : List (Addr × Obj)) (σ : L2.St) (H : Hp) (C : Addr) (f : Str) (y : V) (a : Addr) (s' : Shared) : Prop := ∃ (dx t0 : Addr) (G : Heap), H a = none ∧ H dx = none ∧ dx ≠ a ∧ Inv X pins σ (upd H dx (.xd [(f, y)])) { s' with heap := G } ∧ (∀ b o, G.get? b = some o → s'.heap.get? b = some o) ∧ G.get? a = none ∧
  s'.heap.get? a = some ({ cls := .ref C, dict := some dx, data := .fields #[.ref t0, .none, .none, .none, .bool false, .none] } : Obj) ∧ AllBare s'.gens
section
variable {X : Cx} {pins : List (Addr × Obj)} {σ : L2.St} {H : Hp} {s : Shared}
theorem made_end {H1 H2 : Hp} {hp hp2 h2 : Heap} {g1 g2 : Array GenState} {d1 d2 : Drawn} {t1 t2 : Nat} {os1 os2 : OsState} {a C dx : Addr} {f : Str} {y : V} (I1 : Inv X pins σ H1 ⟨hp, g1, d1, t1, os1⟩) (ha : hp.objs.size ≤ a) (k : ∀ b o, hp.get? b = some o → hp2.get? b = some o)
    (un : Un (frs X.stack) [] (upd H1 a (exo a C none)) H2 hp2 h2) (hok : HOk X.prog X.w H2 h2) (ho : os2 = os1) (hb : AllBare g2) (hd : upd H1 a (exo a C none) dx = none) (hne : dx ≠ a) (e2 : H2 = upd (upd (upd H1 a (exo a C none)) dx (exd dx [(f, y)])) a (exo a C (some dx))) :
    Made X pins σ H1 C f y a ⟨h2, g2, d2, t2, os2⟩ := by
  have hn : H1 a = none := I1.hok.fresh ha
  have hd1 : H1 dx = none := by rw [upd_ne hne] at hd; exact hd
  have ea : H2 a = some (exo a C (some dx)) := by rw [e2, upd_same]
  have ed : H2 dx = some (exd dx [(f, y)]) := by rw [e2, upd_ne hne, upd_same]
  obtain ⟨t0, G, J, kG, ge, hoe, na⟩ := mk_end0 (d2 := d2) (t2 := t2) I1 ha k un hok ho hb ea ed hd1
  have eH : upd (L2.del H2 a) dx (.xd [(f, y)]) = upd H1 dx (.xd [(f, y)]) := by
    funext b
    by_cases z : b = dx
    · rw [z, upd_same, upd_same]
    · rw [upd_ne z, upd_ne z]
      by_cases za : b = a
      · rw [za, del_same, hn]
      · rw [del_ne za, e2, upd_ne za, upd_ne z, upd_ne za]
  rw [eH] at J
  exact ⟨dx, t0, G, hn, hd1, hne, J, kG, ge, hoe, hb⟩
/-- C(u) -/
theorem x_make {x : Xc} {u : Value} {y : V} {Q : Value → Shared → Prop} (D : XcD X.K X.mg x) (I : Inv X pins σ H s) (ry : RelV y u) (hrm : Room 1 (X.A.under (.builtin "type.__call__" ⟨.ref (He.ga X.K x.c) :: [u], []⟩)))
    (h : ∀ a s', Made X pins σ H (He.ga X.K x.c) x.f y a s' → Q (.ref a) s') : wpAny (model X.prog X.w) X.A (call (.ref (He.ga X.K x.c)) [u]) Q X.xe s := by
  obtain ⟨id, fI, fd, qual, params, body, scope, T, hI, iC, tI, F1, S, hB, hb, hkw⟩ := D.fun_
  obtain ⟨B, newId, bmB, nm, q, N, bs, bm, sn, sub, ab, col, dd, k0, k1, k2, k3, k5, XB, hC, hbm⟩ := T.cls
  have no := D.no
  generalize He.ga X.K x.c = C at *
  obtain ⟨hp, g, dr, tk, os⟩ := s
  have hsz : hp.objs.size ≤ hp.objs.size + 1 := Nat.le_succ _
  have hn : H (hp.objs.size + 1) = none := I.hok.fresh hsz
  have kk : ∀ b o, hp.get? b = some o → ((hp.push (PySem.W.kdv_tup [u])).push (PySem.HandSPX.excO C hp.objs.size)).get? b = some o := fun b o e => Heap.get?_push_of_some _ (Heap.get?_push_of_some _ e)
  have hget : ((hp.push (PySem.W.kdv_tup [u])).push (PySem.HandSPX.excO C hp.objs.size)).get? (hp.objs.size + 1) = some (PySem.HandSPX.excO C hp.objs.size) := by heap_get
  have I2 : Inv X pins σ (upd H (hp.objs.size + 1) (exo (hp.objs.size + 1) C none)) ⟨(hp.push (PySem.W.kdv_tup [u])).push (PySem.HandSPX.excO C hp.objs.size), g, dr, tk, os⟩ :=
    I.laid (t' := tk) (a := hp.objs.size + 1) (o := exo (hp.objs.size + 1) C none) (h' := (hp.push (PySem.W.kdv_tup [u])).push (PySem.HandSPX.excO C hp.objs.size)) kk hsz (exo_ok hget)
  refine wpAny_call (PySem.HandSPX.call_own XB.F (fun Y => refsB_contains Y bm hbm) (I.kIn _ _ hC) (PySem.W.looks_findIn I.kIn iC) (fun self => PySem.W.bind_fn I.kIn self tI) (by rw [sizeLine_eq]; exact (show 1 ≤ 16777216 by decide))
    (codeAny_mono (x_run T hI (by assumption) F1 S hB hrm (I2.env0.make C [u] []) (hb _ [.ref (hp.objs.size + 1), u] I2.kIn rfl) ry upd_same) fun r s' hq' => ?_))
  cases r with
  | error er =>
    obtain ⟨_, _, _, _, _, _, _, _, _, _, _, _, z⟩ := hq'
    exact z.elim
  | ok fl =>
    cases fl with
    | ret v' =>
      obtain ⟨v, H2, os2, bare2, un2, hok2, rv, ev, dx, hdx, hne, e2⟩ := hq'
      subst ev
      obtain ⟨h2, g2, d2, t2, os'⟩ := s'
      exact ⟨rv, h _ _ (made_end I hsz kk un2 hok2 os2 bare2 hdx hne e2)⟩
    | next => exact False.elim hq'
    | brk => exact False.elim hq'
    | cont => exact False.elim hq'
end
end PB

/-! PXk -/
/-! PX, part K: an error made with a keyword. -/
namespace PySem
namespace HandSPX
open Builtin Builtin.ObjectAttr
section
variable {M : Model} {A : Around} {E : Value → Shared → Prop} {h : Heap} {g : Array GenState} {d : Drawn} {t : Nat} {os : OsState}
variable {nm q : Str} {C N : Addr} {bs bm bmB : List Value} {hdct : Bool} {sn : List Str} {sub : List Value} {ab : Bool} {col : Option Bool} {dd : Option Addr} {k0 k1 k2 k3 k5 : Option Value} {B newId initId : String} {kn : Str} {kv : Value}
theorem check_newK (F : ExcBaseFacts B newId initId bmB) (hT : ∀ X : String, bm.contains (.type X) = bmB.contains (.type X)) {Q : Unit → Shared → Prop}
    (hC : h.get? C = some (excClassObj nm q C N bs bm hdct sn sub ab col dd k0 k1 k2 k3 k5 newId)) (hq : Q () ⟨h, g, d, t, os⟩) : wpAny M A (checkBuiltinCall newId ⟨[.ref C], [(kn, kv)]⟩) Q E ⟨h, g, d, t, os⟩ := by
  have hcont : (Value.ref C :: bm).contains (.type B) = true := by rw [List.contains_cons, hT, F.hasB, Bool.or_true]
  have hstar := F.noStar
  simp only [checkBuiltinCall, F.newKind, F.newSplit, F.newRow]
  repeat (first | refine wpAny_loadPart_at hC ?_ | (refine wpAny_isSubtype_exc hC ?_; rw [hcont]) | refine wpAny_staticBase_exc hC ?_ | refine wpAny_madeBy_exc hC ?_ | simp only [bne_self_eq_false, Bool.false_eq_true, if_false] | wp_step)
  exact hq
end
section
variable {prog : Program} {w : World} {A : Around} {E : Value → Shared → Prop} {R : Result → Shared → Prop} {h : Heap} {g : Array GenState} {d : Drawn} {t : Nat} {os : OsState}
variable {nm q : Str} {C N : Addr} {bs bm bmB : List Value} {hdct : Bool} {sn : List Str} {sub : List Value} {ab : Bool} {col : Option Bool} {dd : Option Addr} {k0 k1 k2 k3 k5 : Option Value} {B newId initId : String} {kn : Str} {kv : Value}
theorem newK (F : ExcBaseFacts B newId initId bmB) (hT : ∀ X : String, bm.contains (.type X) = bmB.contains (.type X))
    (hC : h.get? C = some (excClassObj nm q C N bs bm hdct sn sub ab col dd k0 k1 k2 k3 k5 newId))
    (hq : R (.ok (.ret (.ref (h.objs.size + 1)))) ⟨(h.push { cls := .type "tuple", data := .seq ([] : List Value).toArray }).push
      { cls := .ref C, data := .fields #[.ref h.objs.size, .none, .none, .none, .bool false, .none] }, g, d, t, os⟩) :
    codeAny (model prog w) A (.builtin newId ⟨[.ref C], [(kn, kv)]⟩) R ⟨h, g, d, t, os⟩ := by
  have hends := F.ends
  have hcB : (Value.ref C :: bm).contains (.type B) = true := by rw [List.contains_cons, hT, F.hasB, Bool.or_true]
  have hcA : (Value.ref C :: bm).contains (.type "AttributeError") = false := by rw [List.contains_cons, hT, F.noAttr]; rfl
  have hcN : (Value.ref C :: bm).contains (.type "NameError") = false := by rw [List.contains_cons, hT, F.noName]; rfl
  refine codeAny_builtinAt F.entry ?_
  unfold Builtin.«BaseException.__new__»
  refine wpAt_bind ?_
  show wpAt _ _ _ (stack >>= _) _ _ _
  refine wpAt_bind (wpAt_stack fun p below => wpAt_of_wpAny ?_)
  wp_walk
  refine wpAt_of_wpAny ?_
  rw [F.owner]
  repeat (first | with_reducible refine wpAny_madeHere_exc F.canon hC ?_ | with_reducible refine wpAny_loadPart_at hC ?_ | (with_reducible refine wpAny_isSubtype_exc hC ?_; first | rw [hcB] | rw [hcA] | rw [hcN]) | wp_step)
  show R _ _
  rw [Heap.size_push]
  exact hq
theorem type_callK (F : ExcBaseFacts B newId initId bmB) (hT : ∀ X : String, bm.contains (.type X) = bmB.contains (.type X)) {fI : Addr} {Q : Fin → Shared → Prop}
    (hC : h.get? C = some (excClassObj nm q C N bs bm hdct sn sub ab col dd k0 k1 k2 k3 k5 newId))
    (hi : W.Looks (model prog w) h (typeLookup (.ref C) "__init__") (some (.ref fI))) (hb : ∀ self, W.Looks (model prog w) h (bindSpecial (.ref fI) self) (.ref fI, [self]))
    (hq : codeAny (model prog w) A (.call (.ref fI) ⟨[.ref (h.objs.size + 1)], [(kn, kv)]⟩)
      (fun r s' => match r with | .ok (.ret v) => v = .none ∧ Q (.done (.ret (.ref (h.objs.size + 1)))) s' | .ok _ => False | .error e => E e s')
      ⟨(h.push (W.kdv_tup [])).push (excO C h.objs.size), g, d, t, os⟩) :
    wpAny (model prog w) A (Builtin.«type.__call__» ⟨[.ref C], [(kn, kv)]⟩) Q E ⟨h, g, d, t, os⟩ := by
  repeat (first | with_reducible refine wpAny_loadPart_at hC ?_ | with_reducible refine wpAny_madeBy_exc hC ?_ | wp_step)
  refine codeAny_call_builtin_code (Code.quiet_builtin _ F.quiet) (check_newK F hT hC ?_)
  refine newK F hT hC ?_
  show wpAny _ _ _ _ _ _
  have k : ∀ b o, h.get? b = some o → ((h.push (W.kdv_tup [])).push (excO C h.objs.size)).get? b = some o := fun b o e => Heap.get?_push_of_some _ (Heap.get?_push_of_some _ e)
  have hC₁ := k _ _ hC
  have hget : ((h.push (W.kdv_tup [])).push (excO C h.objs.size)).get? (h.objs.size + 1) = some (excO C h.objs.size) := by heap_get
  have hcC : (Value.ref C :: bm).contains (.ref C) = true := by simp
  have i1 := hi.keeps k
  have b1 := (hb (.ref (h.objs.size + 1))).keeps k
  unfold isInstance
  repeat (first | with_reducible refine wpAny_loadPart_at hget ?_ | (with_reducible refine wpAny_isSubtype_exc hC₁ ?_; rw [hcC]) | wp_step)
  show wpAny _ _ (typeLookup (.ref C) _) _ _ _
  refine i1.at ?_
  refine wpAny_holding (wpAny_bind (b1.at ?_))
  refine wpAny_bind (wpAny_call (codeAny_mono hq fun r s' z => ?_))
  rcases r with e | (v | _ | _ | _) <;> first | exact z | exact z.elim | skip
  obtain ⟨rfl, z⟩ := z
  first
    | exact wpAny_pure (wpAny_pure z)
    | (wp_walk; exact z)
theorem call_ownK (F : ExcBaseFacts B newId initId bmB) (hT : ∀ X : String, bm.contains (.type X) = bmB.contains (.type X)) {fI : Addr}
    (hC : h.get? C = some (excClassObj nm q C N bs bm hdct sn sub ab col dd k0 k1 k2 k3 k5 newId))
    (hi : W.Looks (model prog w) h (typeLookup (.ref C) "__init__") (some (.ref fI))) (hb : ∀ self, W.Looks (model prog w) h (bindSpecial (.ref fI) self) (.ref fI, [self]))
    (hq : codeAny (model prog w) (A.under (.builtin "type.__call__" ⟨[.ref C], [(kn, kv)]⟩)) (.call (.ref fI) ⟨[.ref (h.objs.size + 1)], [(kn, kv)]⟩) (W.InitBack (h.objs.size + 1) R)
      ⟨(h.push (W.kdv_tup [])).push (excO C h.objs.size), g, d, t, os⟩) :
    codeAny (model prog w) A (.call (.ref C) ⟨[], [(kn, kv)]⟩) R ⟨h, g, d, t, os⟩ := by
  have f1 := tc_lookup
  have f2 := tc_bind (.ref C)
  have hTy : (⟨h, g, d, t, os⟩ : Shared).TypeIs (.ref C) "type" := ⟨_, hC, rfl⟩
  refine codeAny_of_tree ?_
  show wpAny _ _ (callAny (.ref C) _) _ _ _
  repeat (any_goals (first | assumption | with_reducible refine wpAny_loadPart_at hC ?_ | wp_step))
  refine ⟨rfl, ?_⟩
  refine codeAny_call_builtin_at (Code.quiet_builtin _ (by decide +kernel)) entry_typeCall (wpAny_check_type_call_sub hC (type_callK F hT hC hi hb ?_))
  refine codeAny_mono hq fun r s' z => ?_
  rcases r with e | (v | _ | _ | _) <;> exact z
end
end HandSPX
end PySem
namespace PB
open PySem L2 PySem.Spec PyProof.Rows
section
variable {X : Cx} {pins : List (Addr × Obj)} {σ : L2.St} {H : Hp} {s : Shared}
/-- C(prm=u) -/
theorem x_makeK {x : Xc} {u : Value} {y : V} {Q : Value → Shared → Prop} (D : XcD X.K X.mg x)
    (I : Inv X pins σ H s) (ry : RelV y u) (hrm : Room 1 (X.A.under (.builtin "type.__call__" ⟨[.ref (He.ga X.K x.c)], [(x.prm, u)]⟩)))
    (h : ∀ a s', Made X pins σ H (He.ga X.K x.c) x.f y a s' → Q (.ref a) s') : wpAny (model X.prog X.w) X.A (call (.ref (He.ga X.K x.c)) [] [(x.prm, u)]) Q X.xe s := by
  obtain ⟨id, fI, fd, qual, params, body, scope, T, hI, iC, tI, F1, S, hB, hb, hkw⟩ := D.fun_
  obtain ⟨B, newId, bmB, nm, q, N, bs, bm, sn, sub, ab, col, dd, k0, k1, k2, k3, k5, XB, hC, hbm⟩ := T.cls
  have no := D.no
  generalize He.ga X.K x.c = C at *
  obtain ⟨hp, g, dr, tk, os⟩ := s
  have hsz : hp.objs.size ≤ hp.objs.size + 1 := Nat.le_succ _
  have hn : H (hp.objs.size + 1) = none := I.hok.fresh hsz
  have kk : ∀ b o, hp.get? b = some o → ((hp.push (PySem.W.kdv_tup [])).push (PySem.HandSPX.excO C hp.objs.size)).get? b = some o := fun b o e => Heap.get?_push_of_some _ (Heap.get?_push_of_some _ e)
  have hget : ((hp.push (PySem.W.kdv_tup [])).push (PySem.HandSPX.excO C hp.objs.size)).get? (hp.objs.size + 1) = some (PySem.HandSPX.excO C hp.objs.size) := by heap_get
  have I2 : Inv X pins σ (upd H (hp.objs.size + 1) (exo (hp.objs.size + 1) C none)) ⟨(hp.push (PySem.W.kdv_tup [])).push (PySem.HandSPX.excO C hp.objs.size), g, dr, tk, os⟩ :=
    I.laid (t' := tk) (a := hp.objs.size + 1) (o := exo (hp.objs.size + 1) C none) (h' := (hp.push (PySem.W.kdv_tup [])).push (PySem.HandSPX.excO C hp.objs.size)) kk hsz (exo_ok hget)
  refine wpAny_call (PySem.HandSPX.call_ownK XB.F (fun Y => refsB_contains Y bm hbm) (I.kIn _ _ hC) (PySem.W.looks_findIn I.kIn iC) (fun self => PySem.W.bind_fn I.kIn self tI)
    (codeAny_mono (x_run T hI no F1 S hB hrm (I2.env0.make C [] [(x.prm, u)]) (hkw _ (.ref (hp.objs.size + 1)) u) ry upd_same) fun r s' hq' => ?_))
  cases r with
  | error er =>
    obtain ⟨_, _, _, _, _, _, _, _, _, _, _, _, z⟩ := hq'
    exact z.elim
  | ok fl =>
    cases fl with
    | ret v' =>
      obtain ⟨v, H2, os2, bare2, un2, hok2, rv, ev, dx, hdx, hne, e2⟩ := hq'
      subst ev
      obtain ⟨h2, g2, d2, t2, os'⟩ := s'
      exact ⟨rv, h _ _ (made_end I hsz kk un2 hok2 os2 bare2 hdx hne e2)⟩
    | next => exact False.elim hq'
    | brk => exact False.elim hq'
    | cont => exact False.elim hq'
end
end PB

/-! PXc -/
/-! PX, part C: errors in the evaluator: made, asked for their class, raised; {}; [..] * k. -/
namespace PB
open PySem L2
variable [Tb]
section
variable {G : Glob} {X : Cx} {C : Callee} {fns : List Fn} {σ : L2.St} {H H' : Hp} {O O' : Addr → Prop} {env env' : Env} {W : WX}
theorem rep_none (er : EnvR X.K H O σ env) {a : Addr} (h : H a = none) : ¬ O a := fun z => by
  obtain ⟨o, q, _⟩ := er.dom a z
  rw [h] at q; cases q
/-- an error made is a value -/
theorem x_val {x : Xc} {d : D} {y : V} {a : Addr} {pins : List (Addr × Obj)} {s' : Shared} (D : XcD X.K X.mg x) (er : EnvR X.K H O σ env) (hy : Rep X.K H O d y) (m : Made X pins σ H (He.ga X.K x.c) x.f y a s') :
    ∃ H3, Inv X pins σ H3 s' ∧ RPost X.K σ H O env H3 O env (.fz (.exc x.c [(x.f, d)])) (.ref a) := by
  obtain ⟨dx, t0, Gh, hn, hd, hne, J, kG, ge, hoe, hb⟩ := m
  have n1 : upd H dx (.xd [(x.f, y)]) a = none := by rw [upd_ne (Ne.symm hne)]; exact hn
  have k1 := grow_new (o := HO.xd [(x.f, y)]) hd
  have k2 := grow_new (o := exv a (He.ga X.K x.c) dx) n1
  have hk : ∀ b o, H b = some o → upd (upd H dx (.xd [(x.f, y)])) a (exv a (He.ga X.K x.c) dx) b = some o := fun b o e => k2 b o (k1 b o e)
  have hr : Rep X.K (upd (upd H dx (.xd [(x.f, y)])) a (exv a (He.ga X.K x.c) dx)) O d y := Rep.step (fz_grow hk) d y hy
  refine ⟨_, J.laidN (h' := s'.heap) (t' := s'.toks) kG ge n1 (exv_ok hoe rfl rfl rfl), RPost.grow er hk ?_⟩
  refine ⟨a, dx, [(x.f, y)], rfl, rep_none er hn, rep_none er hd, upd_same, ?_, ⟨y, [], rfl, hr, rfl⟩, D.xf, fun p hp => ?_⟩
  · rw [upd_ne hne, upd_same]
  · rcases List.mem_cons.mp hp with z | z
    · rw [z]; exact D.no
    · exact nomatch z
theorem takeX (er : EnvR X.K H O σ env) {r : Vd} {v : V} {d : D} {H1 : Hp} {O1 : Addr → Prop} {env1 : Env} (p1 : RPost X.K σ H O env H1 O1 env1 r v) (q : takeD r env1 = some (d, env')) : ∃ O2, Post X.K σ None0 H O env H1 O2 env' ∧ Rep X.K H1 O2 d v := by
  obtain ⟨O2, p2, r2⟩ := Post.take p1.p.er p1.vr q
  refine ⟨O2, (p1.p.trans p2).clean er fun a z => ?_, r2⟩
  rcases z with z | z
  · exact z.elim
  · exact p1.t a z
theorem se_newX {x : Xc} {e : Expr} {ie : E} {p pos : Pos} (D : XcD X.K X.mg x) (hgl : Gl X x.c) (hdb : (x.c == ("__debug__" : Str)) = false) (hrm : ∀ (Ca : Addr) (us : List Value) (kw : List (Str × Value)), Room 1 (X.A.under (.builtin "type.__call__" ⟨.ref Ca :: us, kw⟩)))
    (hs : starEach [e] X.env = (false, eval e X.env) :: starEach [] X.env) (he : SE G X C fns e ie) : SE G X C fns (.Call (.Name x.c p) [e] [] pos) (.newX x.c x.f ie) := by
  intro σ H O env Q W tk er h
  intro pins s I
  simp only [evE] at h
  obtain ⟨id, fI, fd, qual, params, body, scope, T, _⟩ := D.fun_
  refine wpAny_Call_Name_kw (ld_glob I hgl D.mgc ?_ hdb)
  have ta : TMa X [e] σ H (fun vs H1 => ∃ y O2 env2 d, vs = [y] ∧ Post X.K σ None0 H O env H1 O2 env2 ∧ Rep X.K H1 O2 d y ∧ ∀ v H' O', RPost X.K σ H O env H' O' env2 (.fz (.exc x.c [(x.f, d)])) v → Q v H') := by
    refine TMa.of (pa_cons (peM e) pa_nil hs) ?_
    refine he σ H O env _ W tk er (Out.mono h.bind (fun r env1 _ g v H1 O1 p1 => ?_) fun _ _ k => k)
    unfold newXV at g
    cases q : takeD r env1 with
    | none => rw [q] at g; exact (show False from g).elim
    | some pr =>
      obtain ⟨d, env2⟩ := pr
      rw [q] at g
      obtain ⟨O2, p2, r2⟩ := takeX er p1 q
      exact ⟨v, O2, env2, d, rfl, p2, r2, g⟩
  refine PySem.W.callWith_K (h₀ := X.base) I.ok.mod.kin T.kC (thn (ta pos pins s I) fun us s1 ⟨vs, H1, I1, r1, y, O2, env2, d, ev, p2, ry, q⟩ => ⟨I1.kIn, ?_⟩) hs rfl
  subst ev
  cases r1 with
  | cons ru rr =>
    cases rr
    refine x_make D I1 ru (hrm _ _ _) fun a s' m => ?_
    obtain ⟨H3, J, rp⟩ := x_val D p2.er ry m
    exact ⟨.ref a, H3, J, rfl, q _ _ _ (RPost.more p2 rp)⟩
theorem se_newXK {x : Xc} {e : Expr} {ie : E} {p pos kp : Pos} (D : XcD X.K X.mg x) (hgl : Gl X x.c) (hdb : (x.c == ("__debug__" : Str)) = false) (hrm : ∀ (Ca : Addr) (us : List Value) (kw : List (Str × Value)), Room 1 (X.A.under (.builtin "type.__call__" ⟨.ref Ca :: us, kw⟩)))
    (he : SE G X C fns e ie) : SE G X C fns (.Call (.Name x.c p) [] [⟨some x.prm, e, kp⟩] pos) (.newX x.c x.f ie) := by
  intro σ H O env Q W tk er h
  intro pins s I
  simp only [evE] at h
  obtain ⟨id, fI, fd, qual, params, body, scope, T, _⟩ := D.fun_
  refine wpAny_Call_Name_kw (ld_glob I hgl D.mgc ?_ hdb)
  have ta : TMk X [⟨some x.prm, e, kp⟩] σ H (fun vs H1 => ∃ y O2 env2 d, vs = [y] ∧ Post X.K σ None0 H O env H1 O2 env2 ∧ Rep X.K H1 O2 d y ∧ ∀ v H' O', RPost X.K σ H O env H' O' env2 (.fz (.exc x.c [(x.f, d)])) v → Q v H') := by
    refine TMk.of (pk_cons (peM e) pk_nil) ?_
    refine he σ H O env _ W tk er (Out.mono h.bind (fun r env1 _ g v H1 O1 p1 => ?_) fun _ _ k => k)
    unfold newXV at g
    cases q : takeD r env1 with
    | none => rw [q] at g; exact (show False from g).elim
    | some pr =>
      obtain ⟨d, env2⟩ := pr
      rw [q] at g
      obtain ⟨O2, p2, r2⟩ := takeX er p1 q
      exact ⟨v, O2, env2, d, rfl, p2, r2, g⟩
  refine PySem.W.callWith_KW0 (h₀ := X.base) I.ok.mod.kin T.kC rfl (thn (ta pos pins s I) fun us s1 ⟨vs, H1, I1, r1, y, O2, env2, d, ev, p2, ry, q⟩ => ⟨I1.kIn, ?_⟩) rfl
  subst ev
  cases r1 with
  | cons ru rr =>
    cases rr
    refine x_makeK D I1 ru (hrm _ _ _) fun a s' m => ?_
    obtain ⟨H3, J, rp⟩ := x_val D p2.er ry m
    exact ⟨.ref a, H3, J, rfl, q _ _ _ (RPost.more p2 rp)⟩
/-! ### isinstance(e, C) -/
/-- the name t, asked of the class at C -/
def KitN (K : PySem.W.Frag) (mg : Str → Option Value) (t : Str) (C : Addr) (b : Bool) : Prop := (t == ("__debug__" : Str)) = false ∧ ((∃ CB, mg t = some (.ref CB) ∧ PySem.W.kitOne K (.ref C) (.ref CB) = some b) ∨
  ∃ T : String, mg t = none ∧ t ≠ "__name__" ∧ bootBuiltins t = some (.type T) ∧ PySem.W.kitOne K (.ref C) (.type T) = some b)
theorem call_isX {c : V} {cv : Value} (hcv : ∀ u, RelV c u → u = cv) : CallR X (.builtin "isinstance") (fun xs H Q => ∃ (a Ca dx : Addr) (fs : List (Str × V)) (b : Bool), xs = [.ref a, c] ∧ H a = some (exv a Ca dx) ∧ H dx = some (.xd fs) ∧ ExcC X.K Ca ∧ PySem.W.kitOne X.K (.ref Ca) cv = some b ∧ Q (.bl b) H) := by
  intro pins s σ H xs us Q I r h
  obtain ⟨a, Ca, dx, fs, b, rfl, ea, ed, T, e, q⟩ := h
  cases r with
  | cons rx rr =>
    cases rr with
    | cons rt rr =>
      cases rr
      cases rx
      have ec := hcv _ rt
      subst ec
      obtain ⟨oe, vs, ha, z1, z2, hd⟩ := exv_at I.hok ea
      have hx : ObjOk X.prog X.w H s.heap dx (.xd fs) := I.hok dx _ ed
      obtain ⟨mA, hns, hr⟩ := hx
      obtain ⟨od, ho, hl⟩ := lookIn_ns hns
      have J : PySem.W.InstAt s.heap a oe Ca (some od) := ⟨ha, z1, by unfold PySem.W.notCls; rw [hd] <;> rfl, by rw [z2]; exact ho⟩
      have hcl : (PySem.W.clsIn X.K Ca).isSome = true := by
        obtain ⟨cd, hc, _⟩ := PySem.W.any_some T.hd
        rw [hc]; rfl
      exact PySem.W.kia_one (PySem.W.kitx_exc hcl T.hg T.hk T.hs T.ha T.hn T.ht T.hm) I.kIn J e (fun z => nomatch z) fun tk => ⟨.bl b, H, I.kept (t' := tk) fun _ _ z => z, rfl, q⟩
theorem se_isx {e : Expr} {ie : E} {t : Str} {yes no : List Str} {p p2 pos : Pos} (hgl : Gl X "isinstance") (hm : X.mg "isinstance" = none) (hgt : Gl X t)
    (hy : ∀ c, yes.contains c = true → KitN X.K X.mg t (He.ga X.K c) true) (hn : ∀ c, no.contains c = true → KitN X.K X.mg t (He.ga X.K c) false)
    (hs : starEach [e, .Name t p2] X.env = (false, eval e X.env) :: starEach [.Name t p2] X.env) (he : SE G X C fns e ie) : SE G X C fns (.Call (.Name "isinstance" p) [e, .Name t p2] [] pos) (.isx ie t yes no) := by
  have key : ∀ {c : V} {cv : Value}, (∀ u, RelV c u → u = cv) → PE X (.Name t p2) (tC c) → (∀ C0 b, KitN X.K X.mg t C0 b → PySem.W.kitOne X.K (.ref C0) cv = some b) → SE G X C fns (.Call (.Name "isinstance" p) [e, .Name t p2] [] pos) (.isx ie t yes no) := by
    intro c cv hcv pt hk σ H O env Q W tk er h
    refine TM.of (pe_callB (call_isX hcv) hgl hm (by decide +kernel) (pa_cons (peM e) (pa_cons pt pa_nil (by rfl)) hs) (by decide +kernel) (by decide +kernel) hs (by rfl)) ?_
    simp only [evE] at h
    refine he σ H O env _ W tk er (Out.mono h.bind (fun x env1 _ g v H1 O1 p1 => ?_) fun _ _ k => k)
    unfold isxV at g
    cases q : nowD env1 x with
    | none => rw [q] at g; exact (show False from g).elim
    | some d =>
      rw [q] at g
      have rd := VdR.now p1.p.er p1.vr q
      cases d with
      | exc cn l =>
        simp only at g
        obtain ⟨a, dx, xs, e1, s1, d1, r1, o1⟩ := rd.exc
        subst e1
        by_cases z : yes.contains cn = true
        · rw [if_pos z] at g
          exact ⟨a, _, dx, xs, true, rfl, s1, d1, o1.1.ec, hk _ _ (hy cn z), g _ _ _ (RPost.more p1.p (RPost.here p1.p.er rfl))⟩
        · rw [if_neg z] at g
          by_cases z2 : no.contains cn = true
          · rw [if_pos z2] at g
            exact ⟨a, _, dx, xs, false, rfl, s1, d1, o1.1.ec, hk _ _ (hn cn z2), g _ _ _ (RPost.more p1.p (RPost.here p1.p.er rfl))⟩
          · rw [if_neg z2] at g; exact (show False from g).elim
      | _ => exact (show False from g).elim
  -- how the name is read
  by_cases hd : (t == ("__debug__" : Str)) = false
  · cases qm : X.mg t with
    | some u =>
      by_cases z : ∃ CB, u = .ref CB
      · obtain ⟨CB, rfl⟩ := z
        refine key (c := .ref CB) (cv := .ref CB) (fun u r => r) (pe_glob hgt qm rfl hd) fun C0 b k => ?_
        rcases k.2 with ⟨CB', m, r⟩ | ⟨T, m, _⟩
        · rw [qm] at m; cases m; exact r
        · rw [qm] at m; cases m
      · have nn : ∀ C0 b, ¬ KitN X.K X.mg t C0 b := fun C0 b k => by
          rcases k.2 with ⟨CB', m, r⟩ | ⟨T, m, _⟩
          · rw [qm] at m; cases m; exact z ⟨_, rfl⟩
          · rw [qm] at m; cases m
        intro σ H O env Q W tk er h pins s I
        refine TM.of (pe_callB (id := "isinstance") (r := fun _ _ _ => False) (X := X) (x := "isinstance") (fun pins s σ H xs us Q I r h => h.elim) hgl hm (by decide +kernel) (pa_cons (peM e) (paM _) hs) (by decide +kernel) (by decide +kernel) hs (by rfl)) ?_ pins s I
        simp only [evE] at h
        refine he σ H O env _ W tk er (Out.mono h.bind (fun x env1 _ g v H1 O1 p1 => ?_) fun _ _ k => k)
        exfalso
        unfold isxV at g
        cases q : nowD env1 x with
        | none => rw [q] at g; exact g
        | some d =>
          rw [q] at g
          cases d with
          | exc cn l =>
            simp only at g
            by_cases z : yes.contains cn = true
            · exact nn _ _ (hy cn z)
            · rw [if_neg z] at g
              by_cases z2 : no.contains cn = true
              · exact nn _ _ (hn cn z2)
              · rw [if_neg z2] at g; exact g
          | _ => exact g
    | none =>
      by_cases z : t ≠ "__name__" ∧ ∃ T : String, bootBuiltins t = some (.type T)
      · obtain ⟨hnn, T, hb⟩ := z
        refine key (c := .ty T) (cv := .type T) (fun u r => r) (pe_bltn hgt qm hb rfl hnn hd) fun C0 b k => ?_
        rcases k.2 with ⟨CB', m, r⟩ | ⟨T', m, _, hb', r⟩
        · rw [qm] at m; cases m
        · rw [hb] at hb'; cases hb'; exact r
      · have nn : ∀ C0 b, ¬ KitN X.K X.mg t C0 b := fun C0 b k => by
          rcases k.2 with ⟨CB', m, r⟩ | ⟨T, m, h1, h2, _⟩
          · rw [qm] at m; cases m
          · exact z ⟨h1, T, h2⟩
        intro σ H O env Q W tk er h pins s I
        refine TM.of (pe_callB (id := "isinstance") (r := fun _ _ _ => False) (X := X) (x := "isinstance") (fun pins s σ H xs us Q I r h => h.elim) hgl hm (by decide +kernel) (pa_cons (peM e) (paM _) hs) (by decide +kernel) (by decide +kernel) hs (by rfl)) ?_ pins s I
        simp only [evE] at h
        refine he σ H O env _ W tk er (Out.mono h.bind (fun x env1 _ g v H1 O1 p1 => ?_) fun _ _ k => k)
        exfalso
        unfold isxV at g
        cases q : nowD env1 x with
        | none => rw [q] at g; exact g
        | some d =>
          rw [q] at g
          cases d with
          | exc cn l =>
            simp only at g
            by_cases z : yes.contains cn = true
            · exact nn _ _ (hy cn z)
            · rw [if_neg z] at g
              by_cases z2 : no.contains cn = true
              · exact nn _ _ (hn cn z2)
              · rw [if_neg z2] at g; exact g
          | _ => exact g
  · have nn : ∀ C0 b, ¬ KitN X.K X.mg t C0 b := fun C0 b k => hd k.1
    intro σ H O env Q W tk er h pins s I
    refine TM.of (pe_callB (id := "isinstance") (r := fun _ _ _ => False) (X := X) (x := "isinstance") (fun pins s σ H xs us Q I r h => h.elim) hgl hm (by decide +kernel) (pa_cons (peM e) (paM _) hs) (by decide +kernel) (by decide +kernel) hs (by rfl)) ?_ pins s I
    simp only [evE] at h
    refine he σ H O env _ W tk er (Out.mono h.bind (fun x env1 _ g v H1 O1 p1 => ?_) fun _ _ k => k)
    exfalso
    unfold isxV at g
    cases q : nowD env1 x with
    | none => rw [q] at g; exact g
    | some d =>
      rw [q] at g
      cases d with
      | exc cn l =>
        simp only at g
        by_cases z : yes.contains cn = true
        · exact nn _ _ (hy cn z)
        · rw [if_neg z] at g
          by_cases z2 : no.contains cn = true
          · exact nn _ _ (hn cn z2)
          · rw [if_neg z2] at g; exact g
      | _ => exact g
/-! ### {} -/
theorem se_dct0 {pos : Pos} : SE G X C fns (.Dict [] [] pos) (.dct [] []) := by
  intro σ H O env Q W tk er h
  refine TM.of pe_dnewK ?_
  simp only [evE, evEs] at h
  intro p hp
  have h : ∀ v H' O', RPost X.K σ H O env H' O' env (.fr (.dk [])) v → Q v H' := h
  exact h _ _ _ (RPost.fresh er hp fun H' O' f q => ⟨[], q, rfl⟩)
/-! ### [..] * k -/
theorem se_lrep {es : List Expr} {irs : List E} {k : Expr} {ik : E} {p pos : Pos} (hl : SE G X C fns (.List es p) (.lst irs)) (hk : SE G X C fns k ik) : SE G X C fns (.BinOp (.List es p) .Mult k pos) (.lrep irs ik) := by
  intro σ H O env Q W tk er h
  refine TM.of (pe_op op_rep (peM (.List es p)) (peM k)) ?_
  have e1 : evE C fns (.lrep irs ik) env = (evE C fns (.lst irs) env).bind fun r env => if isFrL r = true then (evE C fns ik env).bind fun y env => lrepV r y env else .err := by
    simp only [evE]
    cases evEs C fns irs env <;> rfl
  rw [e1] at h
  refine hl σ H O env _ W tk er (Out.mono h.bind (fun r env1 _ g v H1 O1 p1 => ?_) fun _ _ k => k)
  by_cases z : isFrL r = true
  · rw [if_pos z] at g
    obtain ⟨l, rfl⟩ : ∃ l, r = .fr (.lst l) := by
      unfold isFrL at z
      split at z
      · exact ⟨_, rfl⟩
      · cases z
    obtain ⟨a, rfl, hO, hR, xs, ha, hr⟩ := p1.vr
    refine hk σ H1 O1 env1 _ W tk p1.p.er (WOut.behind p1.p g.bind fun y env2 _ g2 vy H2 O2 p2 => ?_)
    have ha2 : H2 a = some (.lst xs) := p2.p.ext.keep a _ ha (fun z => z.elim hR id) pl_lst.2.1
    have hr2 : Reps X.K H2 O2 l xs := hr.step (p2.p.fz p1.p.er)
    unfold lrepV at g2
    split at g2
    · rename_i l' k' e2 e3
      cases e2
      split at g2
      · rename_i hc
        simp only [Bool.and_eq_true, decide_eq_true_eq] at hc
        obtain ⟨⟨c1, c2⟩, c3⟩ := hc
        have vy : vy = .int k' := p2.vr
        refine ⟨a, k', xs, rfl, vy, ha2, by omega, by omega, ?_, fun q hq => ?_⟩
        · rw [← hr.length, sizeLine_eq]
          have : l.length * k'.toNat ≤ 1000 * 1000 := Nat.mul_le_mul c3 (by omega)
          omega
        · exact (ResQ.of p2.p.er (r := (true, .lst _)) fun v H3 O3 p3 => g2 v H3 O3 (RPost.more (p1.p.then0 p2.p) p3)).lst hq (reps_rep hr2 k'.toNat)
      · exact (show False from g2).elim
    · exact (show False from g2).elim
  · rw [if_neg z] at g; exact (show False from g).elim
end
section
variable {G : Glob} {X : Cx} {C : Callee} {fns : List Fn} {Wf : Nat}
/-! ### raise C(e) -/
theorem ss_raise {x : Xc} {e : Expr} {ie : E} {p pos pos2 : Pos} (hc : X.calm = true) (D : XcD X.K X.mg x) (hgl : Gl X x.c) (hdb : (x.c == ("__debug__" : Str)) = false) (hrm : ∀ (Ca : Addr) (us : List Value) (kw : List (Str × Value)), Room 1 (X.A.under (.builtin "type.__call__" ⟨.ref Ca :: us, kw⟩)))
    (hs : starEach [e] X.env = (false, eval e X.env) :: starEach [] X.env) (he : SE G X C fns e ie) : SS G X C fns Wf (.Raise (some (.Call (.Name x.c p) [e] [] pos)) none pos2) (.raise x.c x.f ie) := by
  intro σ H O env Dn W tk er h
  obtain ⟨id, fI, fd, qual, params, body, scope, T, _⟩ := D.fun_
  have hmk : PMk X (.Call (.Name x.c p) [e] [] pos) (fun σ H Q => ∃ (O : Addr → Prop) (env : Env), EnvR X.K H O σ env ∧ TMa X [e] σ H (fun vs H1 => ∃ y O2 env2 d, vs = [y] ∧ Post X.K σ None0 H O env H1 O2 env2 ∧ Rep X.K H1 O2 d y ∧
      ∀ cls dd H' O', XPost G X.K σ H O env H' O' env2 (.exc x.c [(x.f, d)]) cls dd → Q cls dd H')) := by
    intro pins s σ H Q I hq
    obtain ⟨O, env, er, ta⟩ := hq
    refine wpAny_Call_Name_kw (ld_glob I hgl D.mgc ?_ hdb)
    refine PySem.W.callWith_K (h₀ := X.base) I.ok.mod.kin T.kC (thn (ta pos pins s I) fun us s1 ⟨vs, H1, I1, r1, y, O2, env2, d, ev, p2, ry, q⟩ => ⟨I1.kIn, ?_⟩) hs rfl
    subst ev
    cases r1 with
    | cons ru rr =>
      cases rr
      refine x_make D I1 ru (hrm _ _ _) fun a s' m => ?_
      obtain ⟨dx, t0, Gh, hn, hd, hne, J, kG, ge, hoe, hb⟩ := m
      have k1 := grow_new (o := HO.xd [(x.f, y)]) hd
      have n1 : upd H1 dx (.xd [(x.f, y)]) a = none := by rw [upd_ne (Ne.symm hne)]; exact hn
      refine ⟨a, _, _, { s' with heap := Gh }, _, .ref (He.ga X.K x.c), some dx, rfl, J, kG, ge, hoe, ⟨rfl, rfl⟩, rfl, rfl, n1, rfl, hb, raises_own T.exC T.tyC, ?_⟩
      refine q _ _ _ O2 ⟨p2.then0 (Post.grow p2.er k1), x.c, _, dx, [(x.f, y)], rfl, rfl, rfl, upd_same, rep_none p2.er hd, ⟨y, [], rfl, Rep.step (fz_grow k1) d y ry, rfl⟩, D.xf, fun p hp => ?_⟩
      rcases List.mem_cons.mp hp with z | z
      · rw [z]; exact D.no
      · exact nomatch z
  refine TMs.of (ps_raise hc tk hmk) ?_
  refine ⟨O, env, er, ?_⟩
  simp only [exS] at h
  refine TMa.of (pa_cons (peM e) pa_nil hs) ?_
  refine he σ H O env _ W tk er ?_
  have key : ∀ (r : Res Vd), SOut G X W Dn σ H O env (r.bind fun v env => (takeR v env).bind fun d env => Res.exc (.exc x.c [(x.f, d)]) env) → r = evE C fns ie env →
      WOut G X W σ H O env r (fun r env' => ∀ v H' O', RPost X.K σ H O env H' O' env' r v → (fun vs H1 => ∃ y O2 env2 d, vs = [y] ∧ Post X.K σ None0 H O env H1 O2 env2 ∧ Rep X.K H1 O2 d y ∧
        ∀ cls dd H' O', XPost G X.K σ H O env H' O' env2 (.exc x.c [(x.f, d)]) cls dd → W cls dd σ H') [v] H') := by
    intro r hr _
    cases r with
    | err => exact hr
    | exc z e2 => exact fun cls d H' O' xp => hr cls d σ H' O' xp.p.s xp.x
    | ok r env1 =>
      intro v H1 O1 p1
      have hr : SOut G X W Dn σ H O env ((takeR r env1).bind fun d env => Res.exc (.exc x.c [(x.f, d)]) env) := hr
      unfold takeR optE at hr
      cases q : takeD r env1 with
      | none => rw [q] at hr; exact (show False from hr).elim
      | some pr =>
        obtain ⟨d, env2⟩ := pr
        rw [q] at hr
        obtain ⟨O2, p2, r2⟩ := takeX er p1 q
        exact ⟨v, O2, env2, d, rfl, p2, r2, fun cls dd H' O' xp => hr cls dd σ H' O' xp.p.s xp.x⟩
  exact key _ h rfl
end
end PB

/-! PBq -/
/-! PB, part Q: what the checker lets by is kept by the model. -/
namespace PB
open PySem L2
variable [Tb]
/-- the module's constants and written dicts -/
def CsOk (K : PySem.W.Frag) (w : World) (mg : Str → Option Value) (cs : List (Str × D)) : Prop :=
  ∀ x d, cs.lookup x = some d → (∃ u v, mg x = some u ∧ scV d = some v ∧ RelV v u) ∨ ∃ l, d = .dk l ∧ TabOk K w mg x l
/-- the context keeps what the checker takes for granted -/
structure Gd (G : Glob) (C : Callee) (fns : List Fn) (X : Cx) (cc : CC) (k : Nat) : Prop where
  calm : X.calm = true
  N : X.N = cc.N
  nd : X.N.Nodup
  sc : X.env.scope = cc.sc
  fl : ∀ x, cc.fl x = true → X.fn x = true
  gd : X.A.guards = some []
  rm : Room (k + 2) X.A
  ps : PassesOwn (model X.prog X.w) X.A X.env X.xe
  cs : CsOk X.K X.w X.mg cc.cs
  fr : ∀ x, x ∈ cc.fr → X.mg x = none
  rm1 : ∀ (Ca : Addr) (us : List Value), Room (k + 2) (X.A.under (.builtin "type.__call__" ⟨.ref Ca :: us, []⟩))
  rm0 : ∀ (Ca : Addr) (us : List Value) (kw : List (Str × Value)), Room 1 (X.A.under (.builtin "type.__call__" ⟨.ref Ca :: us, kw⟩))
  xd : ∀ x ∈ cc.xx.xs, XcD X.K X.mg x
  xi : ∀ x ∈ cc.xx.xs, ∀ t ∈ cc.xx.ts, KitN X.K X.mg t (He.ga X.K x.c) (x.sup.contains t)
  meth : ∀ f fn c, fns[f]? = some fn → fn.cls = some c → ∃ fa fd, MethF G X C fns k f fn c fa fd ∧ Cls X.K (He.ga X.K c) ∧ X.mg c = some (.ref (He.ga X.K c)) ∧ (fn.name = "__init__" → Mk X.K (He.ga X.K c) fa)
  fld : ∀ c f, fldOk fns c f = true → NoAttr X.K (He.ga X.K c) f
  fn : ∀ f fn, fns[f]? = some fn → fn.cls = none → ∃ fa fd, FnG X.prog X.w X.K X.mg X.base (CX X.prog X.w) k fa fd fn.ps (spF G X.K C f fn) ∧ X.mg fn.name = some (.ref fa) ∧ PySem.W.keepIn X.K (.ref fa) = true ∧ Binds X.K fd fn.ps [] ∧ fn.modes.length = fn.ps.length ∧
    ∀ nm pm, (f, nm, pm) ∈ cc.kw → ∀ (s : Shared) (us ws : List Value), X.K.In s.heap → us.length = nm.length → permL us pm = some ws → BindsTo s fd ⟨[], nm.zip us⟩ (fn.ps.zip ws)
section
variable {G : Glob} {C : Callee} {fns : List Fn} {X : Cx} {cc : CC} {k : Nat}
theorem Gd.un (g : Gd G C fns X cc k) : X.A.units + 70 < cLine := by have := g.rm.un; omega
theorem Gd.blk (g : Gd G C fns X cc k) (s : Shared) (H : Hp) (scope : Scope) (Cc : Addr) (cl : List (Str × Addr)) (fp : List Addr) : Gd G C fns (X.blk s H scope (compEnvC scope cl Cc X.env) fp) (cc.blk scope) k where
  calm := g.calm
  N := g.N
  nd := g.nd
  sc := by
    show relS scope X.env.scope = relS scope cc.sc
    rw [g.sc]
  fl := fun x h => h
  gd := g.gd
  rm := g.rm
  ps := PassesOwn.never
  cs := g.cs
  fr := g.fr
  rm1 := g.rm1
  rm0 := g.rm0
  xd := g.xd
  xi := g.xi
  meth := fun f fn c h1 h2 => by
    obtain ⟨fa, fd, M, r⟩ := g.meth f fn c h1 h2
    exact ⟨fa, fd, ⟨M.go, M.at_, M.bind, M.ml⟩, r⟩
  fld := g.fld
  fn := g.fn
theorem Gd.gl (g : Gd G C fns X cc k) {x : Str} (h : cc.gl x = true) : Gl X x := by
  show X.env.scope.names.lookup x = _
  rw [g.sc]
  exact of_decide_eq_true h
theorem Gd.glf (g : Gd G C fns X cc k) {x : Str} (h : cc.glf x = true) : Gl X x ∧ X.mg x = none := by
  unfold CC.glf at h
  simp only [Bool.and_eq_true] at h
  exact ⟨g.gl h.1, g.fr x (of_decide_eq_true h.2)⟩
theorem Gd.var (g : Gd G C fns X cc k) {x : Str} {i : Nat} (h : cc.var x i = true) : X.N[i]? = some x ∧ Vis X.env.scope x ∧ (x == ("__debug__" : Str)) = false ∧ (x == ("__classdict__" : Str)) = false := by
  unfold CC.var at h
  simp only [Bool.and_eq_true, Bool.not_eq_true'] at h
  obtain ⟨⟨⟨h1, h2⟩, h3⟩, h4⟩ := h
  refine ⟨by rw [g.N]; exact of_decide_eq_true h1, ?_, h3, h4⟩
  rw [g.sc]
  unfold visB at h2
  unfold Vis
  split at h2 <;> first | (rename_i q; exact .inl q) | (rename_i q; exact .inr (.inl q)) | (rename_i q; exact .inr (.inr q)) | cases h2
theorem Gd.loc (g : Gd G C fns X cc k) {x : Str} {i : Nat} (h : cc.loc x i = true) : X.N[i]? = some x ∧ Loc X.env.scope x ∧ (X.fn x = true ∨ X.env.scope.names.lookup x = some .local) := by
  unfold CC.loc at h
  simp only [Bool.and_eq_true] at h
  refine ⟨by rw [g.N]; exact of_decide_eq_true h.1, ?_⟩
  rw [g.sc]
  have h2 := h.2
  unfold L2.Loc
  split at h2
  · rename_i q; exact ⟨.inl q, .inr q⟩
  · rename_i q; exact ⟨.inr q, .inl (g.fl x h2)⟩
  · cases h2
theorem Gd.loc1 (g : Gd G C fns X cc k) {x : Str} {i : Nat} (h : cc.loc1 x i = true) : X.N[i]? = some x ∧ X.env.scope.names.lookup x = some .local := by
  unfold CC.loc1 at h
  simp only [Bool.and_eq_true, decide_eq_true_eq] at h
  rw [g.N, g.sc]
  exact h
theorem Gd.tab (g : Gd G C fns X cc k) {x : Str} {l : List (Key × D)} (h : cc.tab x l = true) : Gl X x ∧ (x == ("__debug__" : Str)) = false ∧ TabOk X.K X.w X.mg x l := by
  unfold CC.tab at h
  simp only [Bool.and_eq_true, Bool.not_eq_true'] at h
  obtain ⟨⟨h1, h2⟩, h3⟩ := h
  refine ⟨g.gl h1, h2, ?_⟩
  cases q : cc.cs.lookup x with
  | none => rw [q] at h3; cases h3
  | some d =>
    rw [q] at h3
    cases d with
    | dk m =>
      have e := tkvEq_ok h3
      subst e
      rcases g.cs x _ q with ⟨u, v, m1, m2, m3⟩ | ⟨l, z, t⟩
      · cases m2
      · cases z
        exact t
    | _ => cases h3
theorem Gd.xmk (g : Gd G C fns X cc k) {c f : Str} {o : Option Str} (h : cc.xmk c f o = true) : ∃ x : Xc, XcD X.K X.mg x ∧ x.c = c ∧ x.f = f ∧ ∀ p, o = some p → x.prm = p := by
  unfold CC.xmk at h
  obtain ⟨x, hx, q⟩ := List.any_eq_true.mp h
  simp only [Bool.and_eq_true, decide_eq_true_eq] at q
  refine ⟨x, g.xd x hx, q.1.1, q.1.2, fun p e => ?_⟩
  subst e
  exact of_decide_eq_true q.2
theorem Gd.isx (g : Gd G C fns X cc k) {t : Str} {yes no : List Str} (h : cc.isx t yes no = true) : (∀ c, yes.contains c = true → KitN X.K X.mg t (He.ga X.K c) true) ∧ ∀ c, no.contains c = true → KitN X.K X.mg t (He.ga X.K c) false := by
  unfold CC.isx at h
  simp only [Bool.and_eq_true, decide_eq_true_eq, List.all_eq_true] at h
  obtain ⟨⟨h1, h2⟩, h3⟩ := h
  refine ⟨fun c hc => ?_, fun c hc => ?_⟩
  · obtain ⟨x, hx, q⟩ := List.any_eq_true.mp (h2 c (by simpa using hc))
    simp only [Bool.and_eq_true, decide_eq_true_eq] at q
    have z := g.xi x hx t h1
    rw [q.1, q.2] at z
    exact z
  · obtain ⟨x, hx, q⟩ := List.any_eq_true.mp (h3 c (by simpa using hc))
    simp only [Bool.and_eq_true, decide_eq_true_eq, Bool.not_eq_true'] at q
    have z := g.xi x hx t h1
    rw [q.1, q.2] at z
    exact z
theorem scEq_ok {d d' : D} (h : scEq d d' = true) : d = d' := by
  cases d <;> cases d' <;> first | rfl | (simp [scEq] at h; rw [h]) | (simp [scEq] at h)
/-- what the checker lets by is sound -/
structure CkOk (G : Glob) (C : Callee) (fns : List Fn) (k : Nat) (K : Ck) : Prop where
  e : ∀ cc e ir, K.e cc e ir = true → ∀ X, Gd G C fns X cc k → SE G X C fns e ir
  t : ∀ cc e ir, K.t cc e ir = true → ∀ X, Gd G C fns X cc k → ST G X C fns e ir ∧ ∀ op vs p, e = .BoolOp op vs p → SW G X C fns e ir
  g : ∀ cc e t, K.g cc e t = true → ∀ X, Gd G C fns X cc k → SG G X C fns e t
  i : ∀ cc tg e it, K.i cc tg e it = true → ∀ X, Gd G C fns X cc k → SI G X C fns tg e it
theorem sa_all {K : Ck} (ok : CkOk G C fns k K) (g : Gd G C fns X cc k) : ∀ {es : List Expr} {irs : List E}, es.all notStar = true → all2 (K.e cc) es irs = true → SA G X C fns es irs
  | [], [], _, _ => sa_nil
  | [], _ :: _, _, h => nomatch h
  | _ :: _, [], _, h => nomatch h
  | e :: es, i :: is, hs, h => by
    simp only [List.all_cons, Bool.and_eq_true] at hs
    have h : (K.e cc e i && all2 (K.e cc) es is) = true := h
    simp only [Bool.and_eq_true] at h
    exact sa_cons (star_cons hs.1) (ok.e _ _ _ h.1 X g) (sa_all ok g hs.2 h.2)
theorem pr_all {K : Ck} (ok : CkOk G C fns k K) (g : Gd G C fns X cc k) : ∀ {es : List Expr} {irs : List E}, all2 (K.e cc) es irs = true → Paired (SE G X C fns) es irs
  | [], [], _ => .nil
  | [], _ :: _, h => nomatch h
  | _ :: _, [], h => nomatch h
  | e :: es, i :: is, h => by
    have h : (K.e cc e i && all2 (K.e cc) es is) = true := h
    simp only [Bool.and_eq_true] at h
    exact .cons (ok.e _ _ _ h.1 X g) (pr_all ok g h.2)
theorem sk_all {K : Ck} (ok : CkOk G C fns k K) (g : Gd G C fns X cc k) : ∀ {kws : List Keyword} {irs : List E}, all2 (K.e cc) (kws.map (·.value)) irs = true → SK G X C fns kws irs
  | [], [], _ => sk_nil
  | [], _ :: _, h => nomatch h
  | _ :: _, [], h => nomatch h
  | ⟨nm, v, p⟩ :: es, i :: is, h => by
    have h : (K.e cc v i && all2 (K.e cc) (es.map (·.value)) is) = true := h
    simp only [Bool.and_eq_true] at h
    exact sk_cons (ok.e _ _ _ h.1 X g) (sk_all ok g h.2)
theorem sgs_all {K : Ck} (ok : CkOk G C fns k K) (g : Gd G C fns X cc k) : ∀ {es : List Expr} {ts : List Tg}, es.all notStar = true → all2 (K.g cc) es ts = true → SGs G X C fns es ts
  | [], [], _, _ => sgs_nil
  | [], _ :: _, _, h => nomatch h
  | _ :: _, [], _, h => nomatch h
  | e :: es, i :: is, hs, h => by
    simp only [List.all_cons, Bool.and_eq_true] at hs
    have h : (K.g cc e i && all2 (K.g cc) es is) = true := h
    simp only [Bool.and_eq_true] at h
    exact sgs_cons (by rw [asgE_cons hs.1]; rfl) (ok.g _ _ _ h.1 X g) (sgs_all ok g hs.2 h.2)
theorem so_ok {K : Ck} (ok : CkOk G C fns k K) (g : Gd G C fns X cc k) {e : Option Expr} {i : Option E} (h : okO (K.e cc) e i = true) : SO G X C fns e i := by
  cases e with
  | none => cases i with
    | none => exact so_none
    | some i => exact nomatch h
  | some e => cases i with
    | none => exact nomatch h
    | some i => exact so_some (ok.e _ _ _ h X g)
theorem sc_ok {K : Ck} (ok : CkOk G C fns k K) (g : Gd G C fns X cc k) {e : List Expr} {i : Option E} (h : okIfs (K.t cc) e i = true) : SC G X C fns e i := by
  match e, i, h with
  | [], none, _ => exact sc_none
  | [e], some i, h => exact sc_some (ok.t _ _ _ h X g).1
  | [], some _, h => exact nomatch h
  | [_], none, h => exact nomatch h
  | _ :: _ :: _, none, h => exact nomatch h
  | _ :: _ :: _, some _, h => exact nomatch h
theorem keysB_ok : ∀ {ks : List (Option Expr)} {ss : List Str}, keysB ks ss = true → ∃ js : List (Nat × Pos), ss.length = js.length ∧ ks = (ss.zip js).map fun p => some (.Constant (.str p.1) p.2.1 p.2.2)
  | [], [], _ => ⟨[], rfl, rfl⟩
  | [], _ :: _, h => nomatch h
  | some (.Constant (.str s) j p) :: ks, [], h => nomatch h
  | some (.Constant (.str s) j p) :: ks, t :: ts, h => by
    have h : (decide (s = t) && keysB ks ts) = true := h
    simp only [Bool.and_eq_true, decide_eq_true_eq] at h
    obtain ⟨e, hk⟩ := h
    subst e
    obtain ⟨js, h1, h2⟩ := keysB_ok hk
    exact ⟨(j, p) :: js, by rw [List.length_cons, List.length_cons, h1], by rw [h2]; rfl⟩
theorem own_slots {t : Tg} : (ownOf cc t).map (·.2) = t.slots := by
  unfold ownOf
  rw [List.map_map]
  exact List.map_id _
theorem comp_ok {K : Ck} (ok : CkOk G C fns k K) (g : Gd G C fns X cc k) {elt tg iter : Expr} {ifs : List Expr} {scope : Scope} {ie : E} {t : Tg} {it : It} {c : Option E} (h : okComp K cc elt tg iter ifs scope ie t it c = true) :
    SI G X C fns tg iter it ∧ t.plain = true ∧ BlkOk X.N X.env.scope scope (ownOf cc t) ∧ BlkS G X C fns scope tg ifs elt t c ie ∧ ∀ x, foldedSetIterable iter X.env x = pure x := by
  unfold okComp at h
  simp only [Bool.and_eq_true] at h
  obtain ⟨⟨⟨⟨⟨⟨h1, h2⟩, h3⟩, h4⟩, h5⟩, h6⟩, h7⟩ := h
  refine ⟨ok.i _ _ _ _ h1 X g, h2, by rw [g.N, g.sc]; exact blkOk_by h3, ⟨fun s H Cc cl fp => ok.g _ _ _ h5 _ (g.blk s H scope Cc cl fp), fun s H Cc cl fp => sc_ok ok (g.blk s H scope Cc cl fp) h6, fun s H Cc cl fp => ok.e _ _ _ h7 _ (g.blk s H scope Cc cl fp)⟩, folded h4⟩
theorem blt_ok {K : Ck} (ok : CkOk G C fns k K) (g : Gd G C fns X cc k) {f : Str} {b : Blt} {args : List Expr} {irs : List E} {p pos : Pos} (h : okBlt K cc f b args irs = true) : SE G X C fns (.Call (.Name f p) args [] pos) (.blt b irs) := by
  unfold okBlt at h
  split at h
  · simp only [Bool.and_eq_true, decide_eq_true_eq] at h
    obtain ⟨⟨⟨⟨⟨h1, h2⟩, h3⟩, h4⟩, h5⟩, h6⟩ := h
    subst h1 h2
    exact se_isi (g.glf h3).1 (g.glf h3).2 (g.glf h4).1 (g.glf h4).2 (star_cons h5) (ok.e _ _ _ h6 X g)
  · simp only [Bool.and_eq_true, decide_eq_true_eq] at h
    obtain ⟨⟨⟨⟨⟨⟨⟨h1, h2⟩, h3⟩, h4⟩, h5⟩, h6⟩, h7⟩, h8⟩ := h
    subst h1 h2
    exact se_lrange2 g.calm (g.glf h3).1 (g.glf h3).2 (g.glf h4).1 (g.glf h4).2 (star_cons h5) (star_cons h6) (ok.e _ _ _ h7 X g) (ok.e _ _ _ h8 X g)
  · simp only [Bool.and_eq_true, decide_eq_true_eq] at h
    obtain ⟨⟨⟨⟨⟨⟨⟨h1, h2⟩, h3⟩, h4⟩, h5⟩, h6⟩, h7⟩, h8⟩ := h
    subst h1 h2
    exact se_trange2 g.calm (g.glf h3).1 (g.glf h3).2 (g.glf h4).1 (g.glf h4).2 (star_cons h5) (star_cons h6) (ok.e _ _ _ h7 X g) (ok.e _ _ _ h8 X g)
  · simp only [Bool.and_eq_true, decide_eq_true_eq] at h
    obtain ⟨⟨⟨⟨⟨h1, h2⟩, h3⟩, h4⟩, h5⟩, h6⟩ := h
    subst h1 h2
    exact se_sortSet g.calm (g.glf h3).1 (g.glf h3).2 (g.glf h4).1 (g.glf h4).2 (star_cons h5) (ok.e _ _ _ h6 X g)
  · simp only [Bool.and_eq_true, decide_eq_true_eq] at h
    obtain ⟨⟨⟨⟨⟨h1, h2⟩, h3⟩, h4⟩, h5⟩, h6⟩ := h
    subst h1 h2
    exact se_lenSet g.calm (g.glf h3).1 (g.glf h3).2 (g.glf h4).1 (g.glf h4).2 (star_cons h5) (ok.e _ _ _ h6 X g)
  · simp only [Bool.and_eq_true, decide_eq_true_eq] at h
    obtain ⟨⟨⟨⟨⟨h1, h2⟩, h3⟩, h4⟩, h5⟩, h6⟩ := h
    subst h1 h2
    exact se_sortSetT g.calm (by have := g.un; omega) (g.glf h3).1 (g.glf h3).2 (g.glf h4).1 (g.glf h4).2 (star_cons h5) (ok.e _ _ _ h6 X g)
  · simp only [Bool.and_eq_true, decide_eq_true_eq, Bool.not_eq_true', List.all_cons] at h
    obtain ⟨⟨⟨⟨⟨⟨h1, h2⟩, h3⟩, h4⟩, h5⟩, h6⟩, h7⟩ := h
    subst h2
    exact se_blt g.calm g.gd g.un h1 (g.glf h3).1 (g.glf h3).2 h4 h5 (star_cons h6.1) (star_any h6.2) (sa_all ok g (by simp only [List.all_cons, Bool.and_eq_true]; exact h6) h7)
  · cases h
theorem stepE_ok {K : Ck} (ok : CkOk G C fns k K) (g : Gd G C fns X cc k) {e : Expr} {ir : E} (h : stepE K fns cc e ir = true) : SE G X C fns e ir := by
  unfold stepE at h
  split at h
  · obtain ⟨h1, h2, h3, h4⟩ := g.var h
    exact se_var h1 h2 h3 h4
  · rename_i x p d
    simp only [Bool.and_eq_true, Bool.not_eq_true'] at h
    obtain ⟨⟨h1, h2⟩, h3⟩ := h
    cases q : cc.cs.lookup x with
    | none => rw [q] at h3; cases h3
    | some d' =>
      rw [q] at h3
      have e := scEq_ok h3
      subst e
      rcases g.cs x _ q with ⟨u, v, m1, m2, m3⟩ | ⟨l, z, _⟩
      · exact se_lit m2 (pe_glob (g.gl h1) m1 m3 h2)
      · subst z
        cases h3
  · rename_i c j p d
    cases c with
    | none => cases d <;> first | exact se_lit rfl pe_non | cases h
    | bool b =>
      cases d with
      | bl c =>
        have h : (b == c) = true := h
        have h : b = c := by simpa using h
        subst h
        exact se_lit rfl pe_bl
      | _ => cases h
    | int b =>
      cases d with
      | int c =>
        have h : b = c := of_decide_eq_true h
        subst h
        exact se_lit rfl pe_int
      | _ => cases h
    | str b =>
      cases d with
      | str c =>
        have h : b = c := of_decide_eq_true h
        subst h
        exact se_lit rfl pe_str
      | _ => cases h
    | _ => cases d <;> cases h
  · simp only [Bool.and_eq_true, decide_eq_true_eq] at h
    obtain ⟨⟨h1, h2⟩, h3⟩ := h
    subst h1
    exact se_bin (ok.e _ _ _ h2 X g) (ok.e _ _ _ h3 X g)
  · exact se_not (ok.e _ _ _ h X g)
  · exact se_neg (ok.e _ _ _ h X g)
  · simp only [Bool.and_eq_true, decide_eq_true_eq] at h
    obtain ⟨⟨⟨h1, h2⟩, h3⟩, h4⟩ := h
    subst h1
    exact se_cmp (by have := g.un; omega) (marks h2) (ok.e _ _ _ h3 X g) (ok.e _ _ _ h4 X g)
  · simp only [Bool.and_eq_true, decide_eq_true_eq] at h
    obtain ⟨⟨⟨⟨⟨h1, h2⟩, h3⟩, h4⟩, h5⟩, h6⟩ := h
    subst h1 h2
    exact se_chn (by have := g.un; omega) (marks h3) (ok.e _ _ _ h4 X g) (ok.e _ _ _ h5 X g) (ok.e _ _ _ h6 X g)
  · exact se_one (ok.e _ _ _ h X g)
  · exact se_one (ok.e _ _ _ h X g)
  · simp only [Bool.and_eq_true] at h
    exact se_and (ok.e _ _ _ h.1 X g) (ok.e _ _ _ h.2 X g)
  · simp only [Bool.and_eq_true] at h
    exact se_or (ok.e _ _ _ h.1 X g) (ok.e _ _ _ h.2 X g)
  · simp only [Bool.and_eq_true] at h
    exact se_ite (ok.t _ _ _ h.1.1 X g).1 (ok.e _ _ _ h.1.2 X g) (ok.e _ _ _ h.2 X g)
  · simp only [Bool.and_eq_true] at h
    exact se_tup (sa_all ok g h.1 h.2)
  · simp only [Bool.and_eq_true] at h
    exact se_lst (sa_all ok g h.1 h.2)
  · exact se_dct0
  · simp only [Bool.and_eq_true, decide_eq_true_eq] at h
    obtain ⟨⟨⟨⟨h1, h2⟩, h3⟩, h4⟩, h5⟩ := h
    obtain ⟨js, j1, j2⟩ := keysB_ok h1
    rw [j2]
    exact se_dct (pr_all ok g h2) h3 h4 j1 h5
  · simp only [Bool.and_eq_true] at h
    exact se_slc (ok.e _ _ _ h.1.1 X g) (so_ok ok g h.1.2) (so_ok ok g h.2)
  · simp only [Bool.and_eq_true] at h
    exact se_idx (by have := g.un; omega) (plain_ix h.1.1) (ok.e _ _ _ h.1.2 X g) (ok.e _ _ _ h.2 X g)
  · exact blt_ok ok g h
  · rename_i f p args pos gi irs
    cases q : fns[gi]? with
    | none => rw [q] at h; cases h
    | some fn =>
      rw [q] at h
      cases args with
      | nil => cases h
      | cons e es =>
        simp only [Bool.and_eq_true, decide_eq_true_eq, Bool.not_eq_true', List.all_cons] at h
        obtain ⟨⟨⟨⟨⟨h1, h0⟩, h2⟩, h3⟩, h4⟩, h5⟩ := h
        subst h1
        obtain ⟨fa, fd, F, m, kp, b, ml, _⟩ := g.fn gi fn q h0
        exact se_call q ml F g.gd g.rm (g.gl h2) m kp b h3 (star_cons h4.1) (star_any h4.2) (sa_all ok g (by simp only [List.all_cons, Bool.and_eq_true]; exact h4) h5)
  · rename_i f p kws pos gi irs pm
    cases q : fns[gi]? with
    | none => rw [q] at h; cases h
    | some fn =>
      rw [q] at h
      simp only [Bool.and_eq_true, decide_eq_true_eq, Bool.not_eq_true'] at h
      obtain ⟨⟨⟨⟨⟨⟨⟨h1, h0⟩, h2⟩, h3⟩, h4⟩, h5⟩, h6⟩, h7⟩ := h
      subst h1
      obtain ⟨fa, fd, F, m, kp, b, ml, hk⟩ := g.fn gi fn q h0
      have hlen : (kws.filterMap (·.arg)).length = kws.length := by
        clear h5 h6 h7
        induction kws with
        | nil => rfl
        | cons a r ih =>
          simp only [List.all_cons, Bool.and_eq_true] at h4
          cases qa : a.arg with
          | none => rw [qa] at h4; exact nomatch h4.1
          | some n => rw [List.filterMap_cons, qa]; simp only [List.length_cons]; rw [ih h4.2]
      exact se_callK q ml F g.gd g.rm (g.gl h2) m kp h3 (fun s us ws hK hl hp => hk _ _ h5 s us ws hK (by rw [hlen]; exact hl) hp) h4 h6 (sk_all ok g h7)
  · obtain ⟨c1, c2, c3, c4, c5⟩ := comp_ok ok g h
    exact se_comp g.calm g.nd c1 c2 c3 own_slots c4 c5
  · simp only [Bool.and_eq_true, decide_eq_true_eq] at h
    obtain ⟨⟨h1, h2⟩, h3⟩ := h
    subst h1
    exact se_att (base_ok h2) (ok.e _ _ _ h3 X g)
  · simp only [Bool.and_eq_true, decide_eq_true_eq] at h
    obtain ⟨⟨⟨⟨⟨⟨⟨h1, h2⟩, h3⟩, h4⟩, h5⟩, h6⟩, h7⟩, h8⟩ := h
    subst h1
    rename_i o ap a b cp io ia ib
    have st : backTo cp (starEach [a, b] X.env) = [(false, eval a X.env), (false, eval b X.env)] := by rw [star_cons h4, star_cons h5]; rfl
    exact se_dget (by have := g.un; omega) ⟨base_ok h2, by rw [st]; rfl, h3, st⟩ (ok.e _ _ _ h6 X g) (ok.e _ _ _ h7 X g) (ok.e _ _ _ h8 X g)
  · rename_i o m ap args cp m' fs io irs
    simp only [Bool.and_eq_true, decide_eq_true_eq] at h
    obtain ⟨⟨⟨⟨⟨⟨h1, h2⟩, hl⟩, hn⟩, h3⟩, h4⟩, h5⟩ := h
    subst h1
    have hM : ∀ f fn c, fns[f]? = some fn → fn.cls = some c → ∃ fa fd, MethF G X C fns k f fn c fa fd := fun f fn c q1 q2 => by
      obtain ⟨fa, fd, M, _⟩ := g.meth f fn c q1 q2
      exact ⟨fa, fd, M⟩
    cases args with
    | nil =>
      cases irs with
      | cons i is => exact nomatch h5
      | nil => exact se_meth0 g.gd g.rm hM (meth_ht h2 hl hn h3) (ok.e _ _ _ h4 X g)
    | cons e es =>
      have h3' := h3
      simp only [List.all_cons, Bool.and_eq_true] at h3'
      exact se_meth g.gd g.rm hM (star_cons h3'.1) (star_any h3'.2) (meth_ht h2 hl hn h3) (ok.e _ _ _ h4 X g) (sa_all ok g h3 h5)
  · rename_i c p e es pos gi irs
    cases q : fns[gi]? with
    | none => rw [q] at h; cases h
    | some fn =>
      rw [q] at h
      simp only [Bool.and_eq_true, decide_eq_true_eq, Bool.not_eq_true', List.all_cons] at h
      obtain ⟨⟨⟨⟨⟨h1, h2⟩, h3⟩, h4⟩, h5⟩, h6⟩ := h
      obtain ⟨fa, fd, M, cl, m, mk⟩ := g.meth gi fn c q h1
      exact se_new q h1 g.gd g.rm1 M (mk h2) cl (g.gl h3) m h4 (star_cons h5.1) (star_any h5.2) (sa_all ok g (by simp only [List.all_cons, Bool.and_eq_true]; exact h5) h6)
  · exact se_dnw
  · simp only [Bool.and_eq_true] at h
    exact se_dct1 (by have := g.un; omega) (ok.e _ _ _ h.1 X g) (ok.e _ _ _ h.2 X g)
  · exact se_neE (by have := g.un; omega) (ok.e _ _ _ h X g)
  · simp only [Bool.and_eq_true, decide_eq_true_eq] at h
    obtain ⟨⟨⟨⟨⟨h1, h2⟩, h3⟩, h4⟩, h5⟩, h6⟩ := h
    subst h1
    exact se_join (star_cons h4) (base_str h2) h3 (ok.e _ _ _ h5 X g) (ok.e _ _ _ h6 X g)
  · simp only [Bool.and_eq_true, decide_eq_true_eq] at h
    obtain ⟨⟨⟨⟨⟨h1, h2⟩, h3⟩, h4⟩, h5⟩, h6⟩ := h
    subst h1
    exact se_split (star_cons h4) (base_str h2) h3 (ok.e _ _ _ h5 X g) (ok.e _ _ _ h6 X g)
  · simp only [Bool.and_eq_true, decide_eq_true_eq] at h
    obtain ⟨⟨⟨h1, h2⟩, h3⟩, h4⟩ := h
    subst h1 h2
    obtain ⟨t1, t2, t3⟩ := g.tab h3
    exact se_kin t1 t2 t3 (ok.e _ _ _ h4 X g)
  · simp only [Bool.and_eq_true, decide_eq_true_eq] at h
    obtain ⟨⟨⟨h1, h2⟩, h3⟩, h4⟩ := h
    subst h1
    obtain ⟨t1, t2, t3⟩ := g.tab h2
    exact se_kidx (plain_ix h3) t1 t2 t3 (ok.e _ _ _ h4 X g)
  · simp only [Bool.and_eq_true, decide_eq_true_eq, Bool.not_eq_true'] at h
    obtain ⟨⟨⟨⟨⟨h1, h2⟩, h3⟩, h4⟩, h5⟩, h6⟩ := h
    subst h1
    obtain ⟨x, D, rfl, rfl, _⟩ := g.xmk h2
    exact se_newX D (g.gl h3) h4 g.rm0 (star_cons h5) (ok.e _ _ _ h6 X g)
  · simp only [Bool.and_eq_true, decide_eq_true_eq, Bool.not_eq_true'] at h
    obtain ⟨⟨⟨⟨h1, h2⟩, h3⟩, h4⟩, h5⟩ := h
    subst h1
    obtain ⟨x, D, rfl, rfl, hp⟩ := g.xmk h2
    have hp := hp _ rfl
    subst hp
    exact se_newXK D (g.gl h3) h4 g.rm0 (ok.e _ _ _ h5 X g)
  · simp only [Bool.and_eq_true, decide_eq_true_eq] at h
    obtain ⟨⟨⟨⟨⟨⟨h1, h2⟩, h3⟩, h4⟩, h5⟩, h6⟩, h7⟩ := h
    subst h1 h3
    obtain ⟨hy, hn⟩ := g.isx h5
    exact se_isx (g.glf h2).1 (g.glf h2).2 (g.gl h4) hy hn (star_cons h6) (ok.e _ _ _ h7 X g)
  · simp only [Bool.and_eq_true] at h
    exact se_lrep (ok.e _ _ _ h.1 X g) (ok.e _ _ _ h.2 X g)
  · cases h
theorem stepT_ok {K : Ck} (ok : CkOk G C fns k K) (g : Gd G C fns X cc k) {e : Expr} {ir : E} (h : stepT K cc e ir = true) : ST G X C fns e ir ∧ ∀ op vs p, e = .BoolOp op vs p → SW G X C fns e ir := by
  unfold stepT at h
  split at h
  · exact ⟨st_not (ok.t _ _ _ h X g).1, fun _ _ _ z => nomatch z⟩
  · exact ⟨(sw_and1 (ok.t _ _ _ h X g).1).st, fun _ _ _ _ => sw_and1 (ok.t _ _ _ h X g).1⟩
  · exact ⟨(sw_or1 (ok.t _ _ _ h X g).1).st, fun _ _ _ _ => sw_or1 (ok.t _ _ _ h X g).1⟩
  · simp only [Bool.and_eq_true] at h
    have w := sw_and (ok.t _ _ _ h.1 X g).1 ((ok.t _ _ _ h.2 X g).2 _ _ _ rfl)
    exact ⟨(w).st, fun _ _ _ _ => w⟩
  · simp only [Bool.and_eq_true] at h
    have w := sw_or (ok.t _ _ _ h.1 X g).1 ((ok.t _ _ _ h.2 X g).2 _ _ _ rfl)
    exact ⟨(w).st, fun _ _ _ _ => w⟩
  · simp only [Bool.and_eq_true, decide_eq_true_eq] at h
    obtain ⟨⟨⟨h1, h2⟩, h3⟩, h4⟩ := h
    subst h1
    exact ⟨st_cmp (by have := g.un; omega) (marks h2) (ok.e _ _ _ h3 X g) (ok.e _ _ _ h4 X g), fun _ _ _ z => nomatch z⟩
  · simp only [Bool.and_eq_true, decide_eq_true_eq] at h
    obtain ⟨⟨⟨⟨⟨h1, h2⟩, h3⟩, h4⟩, h5⟩, h6⟩ := h
    subst h1 h2
    exact ⟨st_chn (by have := g.un; omega) (marks h3) (ok.e _ _ _ h4 X g) (ok.e _ _ _ h5 X g) (ok.e _ _ _ h6 X g), fun _ _ _ z => nomatch z⟩
  · exact ⟨st_neE (by have := g.un; omega) (ok.e _ _ _ h X g), fun _ _ _ z => nomatch z⟩
  · simp only [Bool.and_eq_true, decide_eq_true_eq] at h
    obtain ⟨⟨⟨h1, h2⟩, h3⟩, h4⟩ := h
    subst h1 h2
    obtain ⟨t1, t2, t3⟩ := g.tab h3
    exact ⟨st_kin t1 t2 t3 (ok.e _ _ _ h4 X g), fun _ _ _ z => nomatch z⟩
  · simp only [Bool.and_eq_true] at h
    exact ⟨st_plain (ok.e _ _ _ h.2 X g) (plain_true h.1), fun op vs p z => by rw [z] at h; exact nomatch h.1⟩
theorem stepG_ok {K : Ck} (ok : CkOk G C fns k K) (g : Gd G C fns X cc k) {e : Expr} {t : Tg} (h : stepG K cc e t = true) : SG G X C fns e t := by
  unfold stepG at h
  split at h
  · obtain ⟨h1, h2, h3⟩ := g.loc h
    exact sg_name g.nd h1 h2 h3
  · simp only [Bool.and_eq_true, decide_eq_true_eq] at h
    exact sg_tup g.calm (by rw [asgE_len h.1.1, h.1.2]) (asgE_idx h.1.1) (sgs_all ok g h.1.1 h.2)
  · simp only [Bool.and_eq_true] at h
    obtain ⟨h1, h2, h3, h4⟩ := g.var h.1.1
    exact sg_sub (by have := g.un; omega) h1 h2 h3 h4 (asg_sub h.1.2) (ok.e _ _ _ h.2 X g)
  · simp only [Bool.and_eq_true, decide_eq_true_eq] at h
    obtain ⟨h0, h⟩ := h
    subst h0
    obtain ⟨h1, h2, h3, h4⟩ := g.var h
    exact sg_att h1 h2 h3 h4 fun c q => g.fld c _ q
  · cases h
theorem stepI_ok {K : Ck} (ok : CkOk G C fns k K) (g : Gd G C fns X cc k) {tg e : Expr} {it : It} (h : stepI K cc tg e it = true) : SI G X C fns tg e it := by
  unfold stepI at h
  split at h
  · simp only [Bool.and_eq_true, decide_eq_true_eq] at h
    obtain ⟨⟨⟨h1, h2⟩, h3⟩, h4⟩ := h
    subst h1
    exact si_rng1 (g.glf h2).1 (g.glf h2).2 (star_cons h3) (ok.e _ _ _ h4 X g)
  · simp only [Bool.and_eq_true, decide_eq_true_eq] at h
    obtain ⟨⟨⟨⟨⟨h1, h2⟩, h3⟩, h4⟩, h5⟩, h6⟩ := h
    subst h1
    exact si_rng2 (g.glf h2).1 (g.glf h2).2 (by rw [star_cons h3, star_cons h4]; rfl) (star_cons h4) (ok.e _ _ _ h5 X g) (ok.e _ _ _ h6 X g)
  · simp only [Bool.and_eq_true, decide_eq_true_eq] at h
    obtain ⟨⟨⟨⟨h1, h2⟩, h3⟩, h4⟩, h5⟩ := h
    subst h1
    cases tg <;> first | cases h3 | skip
    exact si_enm (g.glf h2).1 (g.glf h2).2 (star_cons h4) (ok.e _ _ _ h5 X g)
  · simp only [Bool.and_eq_true, decide_eq_true_eq] at h
    obtain ⟨⟨⟨⟨⟨⟨h1, h2⟩, h3⟩, h4⟩, h5⟩, h6⟩, h7⟩ := h
    subst h1
    cases tg <;> first | cases h3 | skip
    exact si_zip (g.glf h2).1 (g.glf h2).2 (star_cons h4) (star_cons h5) (ok.e _ _ _ h6 X g) (ok.e _ _ _ h7 X g)
  · simp only [Bool.and_eq_true, decide_eq_true_eq] at h
    obtain ⟨⟨⟨⟨⟨⟨⟨⟨h1, h2⟩, h3⟩, h4⟩, h5⟩, h6⟩, h7⟩, h8⟩, h9⟩ := h
    subst h1
    cases tg <;> first | cases h3 | skip
    exact si_zip3 (g.glf h2).1 (g.glf h2).2 (star_cons h4) (star_cons h5) (star_cons h6) (ok.e _ _ _ h7 X g) (ok.e _ _ _ h8 X g) (ok.e _ _ _ h9 X g)
  · exact si_seq (ok.e _ _ _ h X g)
  · exact si_chars (ok.e _ _ _ h X g)
  · cases h
theorem ck_ok : ∀ n, CkOk G C fns k (ck fns n)
  | 0 => ⟨fun _ _ _ h => (nomatch h), fun _ _ _ h => (nomatch h), fun _ _ _ h => (nomatch h), fun _ _ _ _ h => (nomatch h)⟩
  | n + 1 => ⟨fun _ _ _ h X g => stepE_ok (ck_ok n) g h, fun _ _ _ h X g => stepT_ok (ck_ok n) g h, fun _ _ _ h X g => stepG_ok (ck_ok n) g h, fun _ _ _ _ h X g => stepI_ok (ck_ok n) g h⟩
variable {Wf : Nat}
theorem sss_all {f : Stmt → S → Bool} (h : ∀ st ir, f st ir = true → SS G X C fns Wf st ir) : ∀ {ss : List Stmt} {is : List S}, all2 f ss is = true → SSs G X C fns Wf ss is
  | [], [], _ => sss_nil
  | [], _ :: _, h => nomatch h
  | _ :: _, [], h => nomatch h
  | s :: ss, i :: is, q => by
    have q : (f s i && all2 f ss is) = true := q
    simp only [Bool.and_eq_true] at q
    exact sss_cons (h s i q.1) (sss_all h q.2)
theorem okS_ok {K : Ck} (ok : CkOk G C fns k K) (g : Gd G C fns X cc k) : ∀ n st ir, okS K cc n st ir = true → SS G X C fns Wf st ir := by
  intro n
  induction n with
  | zero => intro st ir h; cases h
  | succ n ih =>
    intro st ir h
    unfold okS at h
    split at h
    · exact ss_pass
    · exact ss_brk
    · exact ss_cont
    · exact ss_doc
    · simp only [Bool.and_eq_true, decide_eq_true_eq] at h
      obtain ⟨⟨⟨⟨h1, h2⟩, h3⟩, h4⟩, h5⟩ := h
      subst h1
      obtain ⟨v1, v2, v3, v4⟩ := g.var h2
      exact ss_app v1 v2 v3 v4 h3 (star_cons h4) (ok.e _ _ _ h5 X g)
    · simp only [Bool.and_eq_true, decide_eq_true_eq] at h
      obtain ⟨⟨⟨⟨h1, h2⟩, h3⟩, h4⟩, h5⟩ := h
      subst h1
      obtain ⟨v1, v2, v3, v4⟩ := g.var h2
      exact ss_ext v1 v2 v3 v4 h3 (star_cons h4) (ok.e _ _ _ h5 X g)
    · simp only [Bool.and_eq_true] at h
      exact ss_expr (swaps_no h.1) (ok.e _ _ _ h.2 X g)
    · exact ss_retN
    · exact ss_ret (ok.e _ _ _ h X g)
    · simp only [Bool.and_eq_true] at h
      exact ss_ite (ok.t _ _ _ h.1.1 X g).1 (sss_all ih h.1.2) (sss_all ih h.2)
    · simp only [Bool.and_eq_true] at h
      exact ss_whl g.ps (ok.t _ _ _ h.1 X g).1 (sss_all ih h.2)
    · simp only [Bool.and_eq_true] at h
      obtain ⟨⟨⟨h1, h2⟩, h3⟩, h4⟩ := h
      exact ss_for g.ps g.calm (ok.i _ _ _ _ h1 X g) (ok.g _ _ _ h2 X g) (sss_all ih h4) (folded h3)
    · simp only [Bool.and_eq_true, Bool.or_eq_true, Bool.not_eq_true', decide_eq_true_eq] at h
      obtain ⟨⟨h1, h2⟩, h3⟩ := h
      obtain ⟨l1, l2, l3⟩ := g.loc h1
      obtain ⟨c1, c2, c3, c4, c5⟩ := comp_ok ok g h2
      rename_i x p elt tg iter ifs scope cp pos i ie t it c
      cases z : swapC cc.sc scope x p cp with
      | true =>
        have hl := h3.resolve_left (by rw [z]; exact fun y => nomatch y)
        exact ss_setLc g.calm g.nd l1 (by rw [g.sc]; exact hl) (by rw [swaps_comp g.sc, z]) c1 c2 c3 own_slots c4 c5
      | false => exact ss_set g.nd l1 l2 l3 (by rw [swaps_comp g.sc, z]) (se_comp g.calm g.nd c1 c2 c3 own_slots c4 c5)
    · simp only [Bool.and_eq_true] at h
      obtain ⟨l1, l2, l3⟩ := g.loc h.1.1
      exact ss_set g.nd l1 l2 l3 (swaps_no h.1.2) (ok.e _ _ _ h.2 X g)
    · simp only [Bool.and_eq_true, decide_eq_true_eq] at h
      obtain ⟨⟨⟨⟨⟨h1, h2⟩, h3⟩, h4⟩, h5⟩, h6⟩ := h
      obtain ⟨a1, a2⟩ := g.loc1 h1
      obtain ⟨b1, b2⟩ := g.loc1 h2
      exact ss_par2 g.calm g.nd a1 b1 h3 a2 b2 (swap_is g.sc h4) (by rw [swaps_sole]; exact swaps_tup) (sa_all ok g h5 h6)
    · simp only [Bool.and_eq_true, decide_eq_true_eq] at h
      obtain ⟨⟨⟨⟨⟨⟨⟨⟨h1, h2⟩, h3⟩, h4⟩, h5⟩, h6⟩, h7⟩, h8⟩, h9⟩ := h
      obtain ⟨a1, a2⟩ := g.loc1 h1
      obtain ⟨b1, b2⟩ := g.loc1 h2
      obtain ⟨c1, c2⟩ := g.loc1 h3
      exact ss_par3 g.calm g.nd a1 b1 c1 h4 h5 h6 a2 b2 c2 (swap_is g.sc h7) (by rw [swaps_sole]; exact swaps_tup) (sa_all ok g h8 h9)
    · simp only [Bool.and_eq_true, Bool.not_eq_true'] at h
      obtain ⟨⟨⟨h1, h2⟩, h3⟩, h4⟩ := h
      have hn := swap_none (env := X.env) g.sc h2
      rcases swap_shape h2 with ⟨ts, k, p, rfl⟩ | ⟨a, b, p, rfl⟩ | ⟨a, b, p, rfl⟩
      · exact ss_asg h1 (by rw [swaps_sole]; exact swaps_tup) hn rfl (ok.e _ _ _ h3 X g) (ok.g _ _ _ h4 X g)
      · exact ss_asg h1 (by rw [swaps_sole]; exact swaps_sub) hn rfl (ok.e _ _ _ h3 X g) (ok.g _ _ _ h4 X g)
      · exact ss_asg h1 (by rw [swaps_sole]; exact swaps_att) hn rfl (ok.e _ _ _ h3 X g) (ok.g _ _ _ h4 X g)
    · simp only [Bool.and_eq_true, decide_eq_true_eq] at h
      obtain ⟨⟨h1, h2⟩, h3⟩ := h
      subst h1
      obtain ⟨l1, l2, l3⟩ := g.loc h2
      exact ss_aug g.nd l1 l2 l3 (ok.e _ _ _ h3 X g)
    · simp only [Bool.and_eq_true, decide_eq_true_eq] at h
      obtain ⟨⟨⟨h1, h2⟩, h3⟩, h4⟩ := h
      subst h1 h2
      obtain ⟨v1, v2, v3, v4⟩ := g.var h3
      exact ss_augA v1 v2 v3 v4 (fun c q => g.fld c _ q) (ok.e _ _ _ h4 X g)
    · simp only [Bool.and_eq_true] at h
      obtain ⟨⟨h1, h2⟩, h3⟩ := h
      obtain ⟨v1, v2, v3, v4⟩ := g.var h1
      exact ss_forK g.ps g.calm (ok.g _ _ _ h2 X g) (sss_all ih h3) v1 v2 v3 v4
    · simp only [Bool.and_eq_true, decide_eq_true_eq] at h
      obtain ⟨⟨⟨h0, h1⟩, h2⟩, h3⟩ := h
      subst h0
      obtain ⟨v1, v2, v3, v4⟩ := g.var h1
      exact ss_forKf g.ps g.calm (ok.g _ _ _ h2 X g) (sss_all ih h3) v1 v2 v3 v4
    · simp only [Bool.and_eq_true, decide_eq_true_eq, Bool.not_eq_true'] at h
      obtain ⟨⟨⟨⟨⟨h1, h2⟩, h3⟩, h4⟩, h5⟩, h6⟩ := h
      subst h1
      obtain ⟨x, D, rfl, rfl, _⟩ := g.xmk h2
      exact ss_raise g.calm D (g.gl h3) h4 g.rm0 (star_cons h5) (ok.e _ _ _ h6 X g)
    · exact ss_never
    · cases h
end
end PB

/-! PBr -/
/-! PB, part R: a def's body; all defs by levels. -/
namespace PB
open PySem L2
variable [Tb]
section
variable {K : PySem.W.Frag} {H H' : Hp} {O O' : Addr → Prop} {σ' : L2.St} {env' : Env}
/-! ### the frame at the entry -/
theorem argR_get : ∀ {ms : List Bool} {ds : List D} {vs : List V} {i : Nat} {d : D}, ArgR K H O ms ds vs → ds[i]? = some d → (ms[i]? = some false ∧ ∃ v, vs[i]? = some v ∧ Rep K H O d v) ∨ (ms[i]? = some true ∧ ∃ a, vs[i]? = some (.ref a) ∧ O a ∧ Shp K H O d a)
  | [], [], [], i, d, _, e => by simp at e
  | false :: ms, x :: ds, v :: vs, 0, d, h, e => by
    have e : some x = some d := e
    cases e
    exact .inl ⟨rfl, v, rfl, h.1⟩
  | true :: ms, x :: ds, v :: vs, 0, d, h, e => by
    have e : some x = some d := e
    cases e
    obtain ⟨a, e1, e2, e3⟩ := h.1
    subst e1
    exact .inr ⟨rfl, a, rfl, e2, e3⟩
  | false :: ms, x :: ds, v :: vs, i + 1, d, h, e => argR_get (ms := ms) (ds := ds) (vs := vs) (i := i) h.2 e
  | true :: ms, x :: ds, v :: vs, i + 1, d, h, e => argR_get (ms := ms) (ds := ds) (vs := vs) (i := i) h.2 e
  | [], [], _ :: _, _, _, h, _ => h.elim
  | [], _ :: _, _, _, _, h, _ => h.elim
  | false :: _, [], _, _, _, h, _ => h.elim
  | true :: _, [], _, _, _, h, _ => h.elim
  | false :: _, _ :: _, [], _, _, h, _ => h.elim
  | true :: _, _ :: _, [], _, _, h, _ => h.elim
theorem refA_mem : ∀ {ms : List Bool} {vs : List V} {a : Addr} {i : Nat}, ms[i]? = some true → vs[i]? = some (.ref a) → a ∈ refA ms vs
  | [], _, _, _, h, _ => by simp at h
  | _ :: _, [], _, _, _, h => by simp at h
  | m :: ms, v :: vs, a, 0, h1, h2 => by
    have h1 : some m = some true := h1
    have h2 : some v = some (.ref a) := h2
    cases h1
    cases h2
    exact List.mem_cons_self
  | m :: ms, v :: vs, a, i + 1, h1, h2 => by
    have z := refA_mem (ms := ms) (vs := vs) (i := i) (a := a) h1 h2
    cases m with
    | false => exact z
    | true =>
      cases v with
      | ref b => exact List.mem_cons_of_mem _ z
      | _ => exact z
theorem refA_inj : ∀ {ms : List Bool} {vs : List V} {a : Addr} {i j : Nat}, (refA ms vs).Nodup → ms[i]? = some true → ms[j]? = some true → vs[i]? = some (.ref a) → vs[j]? = some (.ref a) → i = j
  | [], _, _, _, _, _, h, _, _, _ => by simp at h
  | _ :: _, [], _, _, _, _, _, _, h, _ => by simp at h
  | m :: ms, v :: vs, a, 0, 0, _, _, _, _, _ => rfl
  | m :: ms, v :: vs, a, 0, j + 1, nd, h1, h2, h3, h4 => by
    have h1 : some m = some true := h1
    have h3 : some v = some (.ref a) := h3
    cases h1
    cases h3
    exact ((List.nodup_cons.mp nd).1 (refA_mem (ms := ms) (vs := vs) (i := j) h2 h4)).elim
  | m :: ms, v :: vs, a, i + 1, 0, nd, h1, h2, h3, h4 => by
    have h2 : some m = some true := h2
    have h4 : some v = some (.ref a) := h4
    cases h2
    cases h4
    exact ((List.nodup_cons.mp nd).1 (refA_mem (ms := ms) (vs := vs) (i := i) h1 h3)).elim
  | m :: ms, v :: vs, a, i + 1, j + 1, nd, h1, h2, h3, h4 => by
    have nd' : (refA ms vs).Nodup := by
      cases m with
      | false => exact nd
      | true =>
        cases v with
        | ref b => exact (List.nodup_cons.mp nd).2
        | _ => exact nd
    rw [refA_inj (ms := ms) (vs := vs) (i := i) (j := j) nd' h1 h2 h3 h4]
def slotOf (m : Bool) (d : D) : Slot := if m = true then .ref d else .val d
theorem start_get {ms : List Bool} {ds : List D} {n i : Nat} {s : Slot} (h : (start ms n ds)[i]? = some s) : (∃ m d, ms[i]? = some m ∧ ds[i]? = some d ∧ s = slotOf m d) ∨ s = .no := by
  unfold start at h
  by_cases hi : i < ((ms.zip ds).map (fun p => if p.1 = true then Slot.ref p.2 else .val p.2)).length
  · rw [List.getElem?_append_left hi, List.getElem?_map] at h
    cases q : (ms.zip ds)[i]? with
    | none => rw [q] at h; cases h
    | some p =>
      obtain ⟨m, d⟩ := p
      rw [q] at h
      have h : slotOf m d = s := Option.some.inj h
      have z := List.getElem?_zip_eq_some.mp q
      exact .inl ⟨m, d, z.1, z.2, h.symm⟩
  · rw [List.getElem?_append_right (by omega)] at h
    have := List.mem_of_getElem? h
    exact .inr (List.eq_of_mem_replicate this)
theorem startV_get {N : List Str} {vs : List V} {i : Nat} {v : V} (h : vs[i]? = some v) : (L2.start N vs)[i]? = some (some v) := by
  unfold L2.start
  have hi : i < (vs.map some).length := by rw [List.length_map]; exact (List.getElem?_eq_some_iff.mp h).1
  rw [List.getElem?_append_left hi, List.getElem?_map, h]
  rfl
theorem start_len {ms : List Bool} {ds : List D} {vs : List V} {N : List Str} (h1 : ms.length = vs.length) (h2 : ds.length = vs.length) : (start ms N.length ds).length = (L2.start N vs).length := by
  unfold start L2.start
  rw [List.length_append, List.length_append, List.length_map, List.length_map, List.length_zip, List.length_replicate, List.length_replicate, h1, h2]
  omega
theorem start_env {ms : List Bool} {ds : List D} {vs : List V} {N : List Str} (h : ArgR K H O ms ds vs) (nd : (refA ms vs).Nodup) (dm : Dm H O) : EnvR K H O (L2.start N vs) (start ms N.length ds) := by
  obtain ⟨l1, l2⟩ := ArgR.len h
  have ow : ∀ (i : Nat) (d : D), ((start ms N.length ds)[i]? = some (.own d) ∨ (start ms N.length ds)[i]? = some (.ref d)) → ms[i]? = some true ∧ ∃ a, vs[i]? = some (.ref a) ∧ O a ∧ Shp K H O d a := fun i d q => by
    rcases q with q | q
    · rcases start_get q with ⟨m, d', _, _, e⟩ | e
      · unfold slotOf at e
        split at e <;> cases e
      · cases e
    · rcases start_get q with ⟨m, d', e1, e2, e⟩ | e
      · unfold slotOf at e
        split at e
        · rename_i hm
          cases e
          rcases argR_get h e2 with ⟨z, _⟩ | z
          · rw [e1] at z
            cases z
            cases hm
          · exact z
        · cases e
      · cases e
  refine ⟨start_len l1 l2, fun i d q => ?_, fun i d q => ?_, fun i j a d1 d2 q1 q2 s1 s2 => ?_, dm⟩
  · rcases start_get q with ⟨m, d', e1, e2, e⟩ | e
    · unfold slotOf at e
      split at e
      · cases e
      · rename_i hm
        cases e
        rcases argR_get h e2 with ⟨_, v, e3, r⟩ | ⟨z, _⟩
        · exact ⟨v, startV_get e3, r⟩
        · rw [e1] at z
          cases z
          exact absurd rfl hm
    · cases e
  · obtain ⟨_, a, e3, e4, e5⟩ := ow i d q
    exact ⟨a, startV_get e3, e4, e5⟩
  · obtain ⟨m1, a1, e1, _⟩ := ow i d1 q1
    obtain ⟨m2, a2, e2, _⟩ := ow j d2 q2
    rw [startV_get e1] at s1
    rw [startV_get e2] at s2
    cases s1
    cases s2
    exact refA_inj nd m1 m2 e1 e2
theorem start_root {ms : List Bool} {ds : List D} {vs : List V} {N : List Str} (h : ArgR K H O ms ds vs) {a : Addr} (r : Root (L2.start N vs) (start ms N.length ds) a) : ∃ (i : Nat) (d : D), (start ms N.length ds)[i]? = some (Slot.ref d) ∧ ms[i]? = some true ∧ vs[i]? = some (.ref a) := by
  obtain ⟨i, d, q, hs⟩ := r
  rcases q with q | q
  · rcases start_get q with ⟨m, d', _, _, e⟩ | e
    · unfold slotOf at e
      split at e <;> cases e
    · cases e
  · refine ⟨i, d, q, ?_⟩
    rcases start_get q with ⟨m, d', e1, e2, e⟩ | e
    · unfold slotOf at e
      split at e
      · rename_i hm
        cases e
        rcases argR_get h e2 with ⟨z, _⟩ | ⟨z, b, e3, _⟩
        · rw [e1] at z
          cases z
          cases hm
        · rw [startV_get e3] at hs
          cases hs
          exact ⟨z, e3⟩
      · cases e
    · cases e
theorem outs_ok : ∀ {ms : List Bool} {vs : List V} {env' : Env} {outs : List D}, ms.length = vs.length → outsOf ms env' = some outs → (∀ i : Nat, ms[i]? = some true → ∃ (a : Addr) (d : D), vs[i]? = some (.ref a) ∧ env'[i]? = some (.ref d) ∧ Shp K H' O' d a) → OutR K H' O' (refA ms vs) outs
  | [], [], env', outs, _, h, _ => by
    have h : some [] = some outs := h
    cases h
    trivial
  | [], _ :: _, _, _, l, _, _ => nomatch l
  | _ :: _, [], _, _, l, _, _ => nomatch l
  | false :: ms, v :: vs, [], outs, l, h, g => nomatch h
  | true :: ms, v :: vs, [], outs, l, h, g => nomatch h
  | false :: ms, v :: vs, s :: env', outs, l, h, g => by
    have e : refA (false :: ms) (v :: vs) = refA ms vs := rfl
    rw [e]
    exact outs_ok (ms := ms) (vs := vs) (env' := env') (by simpa using l) h fun i hi => g (i + 1) hi
  | true :: ms, v :: vs, s :: env', outs, l, h, g => by
    obtain ⟨a, d, e1, e2, e3⟩ := g 0 rfl
    have e1 : some v = some (.ref a) := e1
    have e2 : some s = some (.ref d) := e2
    cases e1
    cases e2
    have h : (outsOf ms env').map (d :: ·) = some outs := h
    cases q : outsOf ms env' with
    | none => rw [q] at h; cases h
    | some o =>
      rw [q] at h
      cases h
      exact ⟨e3, outs_ok (ms := ms) (vs := vs) (env' := env') (by simpa using l) q fun i hi => g (i + 1) hi⟩
/-- a body's end as a call's end -/
theorem end_post {ms : List Bool} {ds : List D} {vs : List V} {N : List Str} {outs : List D} (h : ArgR K H O ms ds vs) (nd : (refA ms vs).Nodup) (dm : Dm H O) (sp : SPost K None0 (L2.start N vs) H O (start ms N.length ds) σ' H' O' env') (ho : outsOf ms env' = some outs) :
    CPost K (refA ms vs) H O H' O' outs := by
  obtain ⟨l1, l2⟩ := ArgR.len h
  have keepR : ∀ i : Nat, ms[i]? = some true → ∃ (a : Addr) (d : D), vs[i]? = some (.ref a) ∧ env'[i]? = some (.ref d) ∧ O' a ∧ Shp K H' O' d a := fun i hi => by
    have hil : i < ms.length := (List.getElem?_eq_some_iff.mp hi).1
    obtain ⟨d, hd⟩ : ∃ d, ds[i]? = some d := ⟨ds[i]'(by omega), by simp⟩
    rcases argR_get h hd with ⟨z, _⟩ | ⟨_, a, e3, _, _⟩
    · rw [hi] at z; cases z
    · have hs0 : (start ms N.length ds)[i]? = some (.ref d) := by
        unfold start
        have hz : i < ((ms.zip ds).map (fun p => if p.1 = true then Slot.ref p.2 else .val p.2)).length := by rw [List.length_map, List.length_zip]; omega
        have hq : (ms.zip ds)[i]? = some (true, d) := List.getElem?_zip_eq_some.mpr ⟨hi, hd⟩
        rw [List.getElem?_append_left hz, List.getElem?_map, hq]
        rfl
      obtain ⟨⟨d', e4⟩, e5⟩ := sp.refs i ⟨d, hs0⟩
      obtain ⟨b, e6, e7, e8⟩ := sp.er.own i d' (.inr e4)
      rw [e5, startV_get e3] at e6
      cases e6
      exact ⟨a, d', e3, e4, e7, e8⟩
  refine ⟨⟨fun a o q n t => sp.ext.keep a o q (fun z => z.elim (fun z => n ?_) id) t, sp.ext.dom⟩, sp.new, fun a ha => ?_, sp.er.dom, outs_ok l1 ho fun i hi => ?_⟩
  · obtain ⟨i, d, _, m, e⟩ := start_root h z
    exact refA_mem m e
  · by_cases z : Root (L2.start N vs) (start ms N.length ds) a
    · obtain ⟨i, d, _, m, e⟩ := start_root h z
      obtain ⟨b, d', e3, _, e7, _⟩ := keepR i m
      rw [e] at e3
      cases e3
      exact e7
    · exact sp.hold a ha z id
  · obtain ⟨a, d, e3, e4, _, e8⟩ := keepR i hi
    exact ⟨a, d, e3, e4, e8⟩
theorem end_ret {ms : List Bool} {ds : List D} {vs : List V} {N : List Str} {v : Vd} {u : V} {r : Rt} (h : ArgR K H O ms ds vs) (sp : SPost K None0 (L2.start N vs) H O (start ms N.length ds) σ' H' O' env')
    (vr : VdR K H' O' σ' env' v u) (ht : ∀ a ∈ tmp v u, H a = none) (hr : rtOf env' v = some r) : RtR K H vs H' O' r u := by
  cases v with
  | fz d => cases hr; exact vr
  | fr d =>
    cases hr
    obtain ⟨a, e1, e2, _, e4⟩ := vr
    subst e1
    exact ⟨a, rfl, e2, ht a (by simp [tmp]), e4⟩
  | bw i =>
    have vr : σ'[i]? = some (some u) := vr
    have hr : (match env'[i]? with
      | some (.own d) => some (Rt.fr d)
      | some (.val d) => some (.fz d)
      | some (.ref _) => some (.prm i)
      | _ => none) = some r := hr
    cases q : env'[i]? with
    | none => rw [q] at hr; cases hr
    | some s =>
      rw [q] at hr
      cases s with
      | no => cases hr
      | val d =>
        cases hr
        obtain ⟨w, e1, e2⟩ := sp.er.val i d q
        rw [vr] at e1
        cases e1
        exact e2
      | own d =>
        cases hr
        obtain ⟨a, e1, e2, e3⟩ := sp.er.own i d (.inl q)
        rw [vr] at e1
        cases e1
        refine ⟨a, rfl, e2, ?_, e3⟩
        rcases sp.root a ⟨i, d, .inl q, vr⟩ with z | z | z
        · obtain ⟨j, d0, hj, m, e⟩ := start_root h z
          obtain ⟨⟨d', e4⟩, e5⟩ := sp.refs j ⟨d0, hj⟩
          rw [startV_get e] at e5
          have ij := sp.er.apart i j a d d' (.inl q) (.inr e4) vr e5
          subst ij
          rw [q] at e4
          cases e4
        · exact z.elim
        · exact z
      | ref d =>
        cases hr
        obtain ⟨d0, h0⟩ := sp.refs' i ⟨d, q⟩
        rcases start_get h0 with ⟨m, d', e1, e2, e⟩ | e
        · rcases argR_get h e2 with ⟨z, w, e3, _⟩ | ⟨z, a, e3, _⟩
          · show vs[i]? = some u
            rw [e3]
            have e5 := (sp.refs i ⟨d0, h0⟩).2
            rw [vr, startV_get e3] at e5
            cases e5
            rfl
          · show vs[i]? = some u
            rw [e3]
            have e5 := (sp.refs i ⟨d0, h0⟩).2
            rw [vr, startV_get e3] at e5
            cases e5
            rfl
        · cases e
end
/-! ### a def keeps its promise -/
/-- a def of the text, and its small text -/
structure DefOk (G : Glob) (P : Program) (w : World) (K : PySem.W.Frag) (mg : Str → Option Value) (fns : List Fn) (n : Nat) (cs : List (Str × D)) (fr : List Str) (kw : List (Nat × List Str × List Nat)) (xx : Xs) (f : Nat) (fn : Fn) (fa : Addr) (fd : FuncData) : Prop where
  fun_ : ∃ (qual : Str) (params : Arguments) (body : List Stmt) (scope : Scope), FunD K fn.name qual params body scope [] [] fa fd ∧ FnScope fn.ns fn.ps scope ∧ okFn fns n cs fr kw xx scope body fn = true
  meth : ∀ c, fn.cls = some c → Meth K (He.ga K c) fn.name fa ∧ Cls K (He.ga K c) ∧ mg c = some (.ref (He.ga K c)) ∧ (fn.name = "__init__" → Mk K (He.ga K c) fa ∧ ∀ f ∈ fn.flds, NoAttr K (He.ga K c) f)
  mg : fn.cls = none → mg fn.name = some (.ref fa)
  bind : Binds K fd fn.ps []
  ml : fn.modes.length = fn.ps.length
  kw : ∀ nm pm, (f, nm, pm) ∈ kw → ∀ (s : Shared) (us ws : List Value), K.In s.heap → us.length = nm.length → permL us pm = some ws → BindsTo s fd ⟨[], nm.zip us⟩ (fn.ps.zip ws)
section
variable {G : Glob} {P : Program} {w : World} {K : PySem.W.Frag} {mg : Str → Option Value} {base : Heap} {fns : List Fn} {n Wf : Nat} {cs : List (Str × D)} {fr : List Str} {kw : List (Nat × List Str × List Nat)} {xx : Xs}
theorem body_out {X : Cx} {C : Callee} {N : List Str} {ms : List Bool} {ds : List D} {vs : List V} {H : Hp} {O : Addr → Prop} {Q : VK} {E : XK} {r : Res Flow} (h : ArgR X.K H O ms ds vs) (nd : (refA ms vs).Nodup) (dm : Dm H O)
    (q : match finish ms r with
      | .ret r outs => ∀ v H' O', CPost X.K (refA ms vs) H O H' O' outs → RtR X.K H vs H' O' r v → Q v H'
      | .exc x outs => ∀ cls d H' O', CPost X.K (refA ms vs) H O H' O' outs → ExcR G X.K H' O' x cls d → E cls d H'
      | .err => False) : SOut G X (fun cls d _ H' => E cls d H') { nx := fun _ H' => Q .non H', rt := Q } (L2.start N vs) H O (start ms N.length ds) r := by
  cases r with
  | err => exact q
  | exc x env' =>
    have q : (match (match outsOf ms env' with
        | some o => CRes.exc x o
        | none => .err) with
      | .ret r outs => ∀ v H' O', CPost X.K (refA ms vs) H O H' O' outs → RtR X.K H vs H' O' r v → Q v H'
      | .exc x outs => ∀ cls d H' O', CPost X.K (refA ms vs) H O H' O' outs → ExcR G X.K H' O' x cls d → E cls d H'
      | .err => False) := q
    cases qo : outsOf ms env' with
    | none => rw [qo] at q; exact q.elim
    | some o =>
      rw [qo] at q
      exact fun cls d σ' H' O' sp ex => q cls d H' O' (end_post h nd dm sp qo) ex
  | ok f env' =>
    cases f with
    | next =>
      have q : (match (match outsOf ms env' with
          | some o => CRes.ret (.fz .non) o
          | none => .err) with
        | .ret r outs => ∀ v H' O', CPost X.K (refA ms vs) H O H' O' outs → RtR X.K H vs H' O' r v → Q v H'
        | .exc x outs => ∀ cls d H' O', CPost X.K (refA ms vs) H O H' O' outs → ExcR G X.K H' O' x cls d → E cls d H'
        | .err => False) := q
      cases qo : outsOf ms env' with
      | none => rw [qo] at q; exact q.elim
      | some o =>
        rw [qo] at q
        exact fun σ' H' O' sp => q .non H' O' (end_post h nd dm sp qo) rfl
    | brk => exact (show False from q).elim
    | cont => exact (show False from q).elim
    | ret v =>
      have q : (match (match outsOf ms env', rtOf env' v with
          | some o, some r => CRes.ret r o
          | _, _ => .err) with
        | .ret r outs => ∀ v H' O', CPost X.K (refA ms vs) H O H' O' outs → RtR X.K H vs H' O' r v → Q v H'
        | .exc x outs => ∀ cls d H' O', CPost X.K (refA ms vs) H O H' O' outs → ExcR G X.K H' O' x cls d → E cls d H'
        | .err => False) := q
      cases qo : outsOf ms env' with
      | none => rw [qo] at q; exact q.elim
      | some o =>
        cases qr : rtOf env' v with
        | none => rw [qo, qr] at q; exact q.elim
        | some r =>
          rw [qo, qr] at q
          exact fun σ' H' O' u sp vr ht => q u H' O' (end_post h nd dm sp qo) (end_ret h sp vr ht qr)
theorem fnG_zero {f : Nat} {fn : Fn} {fa : Addr} {fd : FuncData} : FnG P w K mg base (CX P w) 0 fa fd fn.ps (spF G K (callF fns Wf 0) f fn) :=
  ⟨fun vs H Q E ⟨_, _, h, _⟩ => h, fun A outer s H args us vs Q E _ _ _ _ _ ⟨_, _, _, _, _, _, h⟩ => (show False from h).elim⟩
theorem fnG_succ {k f : Nat} {fn : Fn} {fa : Addr} {fd : FuncData} (hf : fns[f]? = some fn) (D : DefOk G P w K mg fns n cs fr kw xx f fn fa fd)
    (hcs : CsOk K w mg cs) (hfr : ∀ x, x ∈ fr → mg x = none) (hxd : ∀ x ∈ xx.xs, XcD K mg x) (hxi : ∀ x ∈ xx.xs, ∀ t ∈ xx.ts, KitN K mg t (He.ga K x.c) (x.sup.contains t))
    (ih : ∀ g gn, fns[g]? = some gn → ∃ ga gd, FnG P w K mg base (CX P w) k ga gd gn.ps (spF G K (callF fns Wf k) g gn) ∧ DefOk G P w K mg fns n cs fr kw xx g gn ga gd) : FnG P w K mg base (CX P w) (k + 1) fa fd fn.ps (spF G K (callF fns Wf (k + 1)) f fn) := by
  obtain ⟨qual, params, body, scope, F, S, hok⟩ := D.fun_
  obtain ⟨oc, od, dV, kV, doc, pm, an, cdv, ct, osl, rfl, lk, hcd, _, _⟩ := F.ex
  refine ⟨fun vs H Q E ⟨_, _, h, _⟩ => h, fun A outer s H args us vs Q E hg hr e0 hb rv hsp => ?_⟩
  obtain ⟨O, ds, hl, ha, nd, dm, hsp⟩ := hsp
  have KX : K.In s.heap := e0.mod.kin.keeps fun b o q => (e0.bs b o q).1
  have lim : s.heap.NoLimit := e0.mod.nolimit.keeps fun b o q => (e0.bs b o q).1
  refine codeAny_call_function hr.depth (KX _ _ lk) rfl S.co S.gen rfl (PySem.W.codeRec_of KX hcd) (hb _ _ _ _ ?_)
  refine wpAny_newFunctionEnv_cells S.kind (fun y hy => ?_) fun env he s1 x => ?_
  · obtain ⟨m, v⟩ := y
    rcases S.par m (List.of_mem_zip hy).1 with q | q
    · exact .inl q
    · exact .inr ⟨q, PySem.W.cellsFrom_some _ _ _ (.inl q)⟩
  subst he
  refine ⟨lim.keeps x.toInCall.keep, codeAny_func ?_⟩
  have I := inv_start (CX := CX P w) (E := E) S hr.hd e0 hl rv x
  generalize hX : cxOf (CX P w) P w K mg base fn.ns qual scope fa cdv A outer s H E = X at I
  have XK : X.K = K := by rw [← hX]; rfl
  have Xp : X.prog = P := by rw [← hX]; rfl
  have Xw : X.w = w := by rw [← hX]; rfl
  have tk : Takes X (fun cls d _ H' => E cls d H') := by
    rw [← hX]
    exact takes_of rfl rfl rfl rfl
  have gd : Gd G (callF fns Wf k) fns X ⟨fn.ns, scope, fun _ => true, cs, fr, kw, xx⟩ k := by
    rw [← hX]
    refine ⟨rfl, rfl, S.nd, rfl, fun _ _ => rfl, hg, Room.deeper (k := k + 2) (hr.mono (by omega)) _, passes_of rfl, hcs, hfr, fun Ca us => ⟨hr.hd, ?_, ?_⟩, fun Ca us kw => ⟨hr.hd, ?_, ?_⟩, hxd, hxi, fun g gn c hgn hc => ?_, fun c f hfl => ?_, fun g gn hgn hc => ?_⟩
    · have := hr.dp
      rw [make_depth]
      show A.depth + 1 + 1 + 3 * (k + 2) + 5 < _
      omega
    · have := hr.un
      rw [make_units]
      show A.units + 3 + 1 + 16 * (k + 2) + 200 < _
      omega
    · have := hr.dp
      rw [make_depth]
      show A.depth + 1 + 1 + 3 * 1 + 5 < _
      omega
    · have := hr.un
      rw [make_units]
      show A.units + 3 + 1 + 16 * 1 + 200 < _
      omega
    · obtain ⟨ga, gd, F', D'⟩ := ih g gn hgn
      obtain ⟨m1, m2, m3, m4⟩ := D'.meth c hc
      exact ⟨ga, gd, ⟨F', m1, D'.bind, D'.ml⟩, m2, m3, fun z => (m4 z).1⟩
    · unfold fldOk at hfl
      obtain ⟨gn, hm, q⟩ := List.any_eq_true.mp hfl
      simp only [Bool.and_eq_true, decide_eq_true_eq] at q
      obtain ⟨g, hgl, hge⟩ := List.getElem_of_mem hm
      obtain ⟨ga, gd, F', D'⟩ := ih g gn (by rw [List.getElem?_eq_getElem hgl, hge])
      exact ((D'.meth c q.1.1).2.2.2 q.1.2).2 f (by simpa using q.2)
    · obtain ⟨ga, gd, F', D'⟩ := ih g gn hgn
      obtain ⟨_, _, _, _, F2, _, _⟩ := D'.fun_
      exact ⟨ga, gd, F', D'.mg hc, F2.kp, D'.bind, D'.ml, D'.kw⟩
  have ss : SSs G X (callF fns Wf k) fns Wf body fn.body := sss_all (fun st ir q => okS_ok (ck_ok n) gd n st ir q) hok
  have er : EnvR X.K H O (L2.start fn.ns vs) (start fn.modes fn.ns.length ds) := by rw [XK]; exact start_env ha nd dm
  have hrun : callF fns Wf (k + 1) f ds = finish fn.modes (exSs (callF fns Wf k) fns Wf fn.body (start fn.modes fn.ns.length ds)) := by
    show (match fns[f]? with
      | some fn => runFn (callF fns Wf k) fns Wf fn ds
      | none => .err) = _
    rw [hf]
    show (if ds.length = fn.ps.length then _ else _) = _
    rw [if_pos (by rw [← hl]; exact (ArgR.len ha).2)]
  rw [hrun] at hsp
  have so := body_out (G := G) (X := X) (C := callF fns Wf k) (N := fn.ns) (Q := Q) (E := E) (r := exSs (callF fns Wf k) fns Wf fn.body (start fn.modes fn.ns.length ds)) (by rw [XK]; exact ha) nd dm (by rw [XK]; exact hsp)
  have t := ss _ H O _ _ _ tk er so
  have t := t [] s1 I
  rw [← hX] at t
  refine wpAny_mono t (fun fl s' hs => ?_) fun e s' hs => hs
  have fin : ∀ {σ' : L2.St} {H' : Hp} {v : V} {u : Value}, Inv (cxOf (CX P w) P w K mg base fn.ns qual scope fa cdv A outer s H E) [] σ' H' s' → RelV v u → Q v H' → CE outer P w H s Q u s' := fun J ru q => ⟨_, _, J.os, J.bare, J.base, J.hok, ru, q⟩
  cases fl with
  | ret u =>
    obtain ⟨v, σ2, H2, J, ru, q⟩ := hs
    exact fin J ru q
  | next =>
    obtain ⟨σ2, H2, J, q⟩ := hs
    exact fin (v := V.non) (u := Value.none) J rfl q
  | brk =>
    obtain ⟨_, _, _, q⟩ := hs
    exact q.elim
  | cont =>
    obtain ⟨_, _, _, q⟩ := hs
    exact q.elim
/-- ALL DEFS, by levels -/
theorem fnG_all (D : ∀ f fn, fns[f]? = some fn → ∃ fa fd, DefOk G P w K mg fns n cs fr kw xx f fn fa fd) (hcs : CsOk K w mg cs) (hfr : ∀ x, x ∈ fr → mg x = none) (hxd : ∀ x ∈ xx.xs, XcD K mg x) (hxi : ∀ x ∈ xx.xs, ∀ t ∈ xx.ts, KitN K mg t (He.ga K x.c) (x.sup.contains t)) :
    ∀ (k f : Nat) (fn : Fn) (fa : Addr) (fd : FuncData), fns[f]? = some fn → DefOk G P w K mg fns n cs fr kw xx f fn fa fd → FnG P w K mg base (CX P w) k fa fd fn.ps (spF G K (callF fns Wf k) f fn) := by
  intro k
  induction k with
  | zero => exact fun f fn fa fd _ _ => fnG_zero
  | succ k ih =>
    intro f fn fa fd hf d
    refine fnG_succ hf d hcs hfr hxd hxi fun g gn hg => ?_
    obtain ⟨ga, gd, d'⟩ := D g gn hg
    exact ⟨ga, gd, ih g gn ga gd hg d', d'⟩
end
end PB

/-! PBs -/
/-! PB, part S: a law's end; the head's facts. -/
namespace PB
open PySem L2 PySem.Spec PyProof.Rows
section
variable [Tb] {P : Program} {w : World} {K : PySem.W.Frag} {mg mb : Str → Option Value} {k : Nat} {fa a : Addr} {fd : FuncData} {x : Str} {sp : Sp} {st : Shared} {vs : List Value} {ns : List Int} {cs : List (Addr × Addr)}
/-- what is followed from the law's call on: the script, the dict of all modules, empty tables -/
structure From0 (K : PySem.W.Frag) (cs : List (Addr × Addr)) (a : Addr) (H : Hp) : Prop where
  tab : ∀ p ∈ cs, H p.2 = some (.tbl #[])
  sm : SmOk H
  kind : ∀ b, H b = none ∨ (∃ p ∈ cs, b = p.2) ∨ ∃ o u, H b = some (.frz o u)
  only : ∀ b, H b ≠ none → b = a ∨ b = sysModules ∨ ∃ p ∈ cs, b = p.2
  notK : ∀ b, H b ≠ none → K.lookup b = none
/-- the law's call, from the law's promise (the guards known) -/
theorem lawG (hK : K.In st.heap) (hG : st.heap.Ns mainGlobals mg) (hB : st.heap.Ns builtinsNs mb) (hBB : ∀ x : Str, x ≠ "__name__" → mb x = bootBuiltins x) (hL : st.heap.NoLimit) (hgen : st.gens = #[])
    (hbm : ∃ (bm : Addr) (ob : Obj), mg "__builtins__" = some (.ref bm) ∧ bm ≠ builtinsNs ∧ st.heap.get? bm = some ob ∧ ob.cls = .type "module" ∧ ob.dict = some builtinsNs ∧ ob.data = .plain)
    (hsm : ∃ o : Obj, st.heap.get? sysModules = some o ∧ o.cls = .type "dict") (nsm : K.lookup sysModules = none)
    (hT : ∀ p ∈ cs, st.heap.get? p.2 = some { cls := .none, data := .fields #[] }) (nT : ∀ p ∈ cs, K.lookup p.2 = none) (hC : ∀ p ∈ cs, PySem.W.CodeHd st.heap p.1 p.2)
    (hget : st.heap.get? a = some { cls := .type "list", data := .seq vs.toArray }) (hints : IntsAre vs ns) (hlen : ns.length ≤ sizeLine) (hroom : Room (k + 2) callerA)
    (F : ∀ base : Heap, K.In base → base.Ns mainGlobals mg → (∀ p ∈ cs, LamX.TabB base mg p.1 p.2) → FnG P w K mg base (CX P w) k fa fd [x] sp) (hbd : ∀ (s : Shared) (u : Value), K.In s.heap → BindsTo s fd ⟨[u], []⟩ [(x, u)])
    (hprom : ∀ H : Hp, From0 K cs a H → SqL K H a (ns.map V.int) → sp [.ref a] H (fun v _ => v = .bl true) fun _ _ _ => False) :
    codeAny (model P w) callerA (.call (.ref fa) ⟨[.ref a], []⟩) (fun r s' => r = .ok (.ret (.bool true)) ∧ OldK st.heap s'.heap ∧ s'.os = st.os ∧ AllBare s'.gens) st := by
  have hvals := vals_ints hints
  have hsame := hints.length
  obtain ⟨oS, gS, cS⟩ := hsm
  have main : ∀ H : Hp, From0 K cs a H → SqL K H a (ns.map V.int) → HOk P w H st.heap →
      codeAny (model P w) callerA (.call (.ref fa) ⟨[.ref a], []⟩) (fun r s' => r = .ok (.ret (.bool true)) ∧ OldK st.heap s'.heap ∧ s'.os = st.os ∧ AllBare s'.gens) st := by
    intro H f0 hsq hho
    have low : ∀ {b : Addr} {o : Obj}, st.heap.get? b = some o → H b = none → (hidT st.heap H).get? b = some o := fun e n => hidT_get e n
    -- what is neither the script nor the modules' dict nor a table is not followed
    have clear : ∀ {b : Addr} {o : Obj}, st.heap.get? b = some o → (∀ us n, o.data ≠ .seq us n) → b ≠ sysModules → o.data ≠ .fields #[] → H b = none := by
      intro b o e h1 h2 h3
      cases q : H b with
      | none => rfl
      | some u =>
        exfalso
        rcases f0.only b (by rw [q]; exact fun z => nomatch z) with z | z | ⟨p, hp, z⟩
        · rw [z, hget] at e
          cases e
          exact h1 _ _ rfl
        · exact h2 z
        · rw [z, hT p hp] at e
          cases e
          exact h3 rfl
    have nsLow : ∀ {b : Addr} {m : Str → Option Value}, b ≠ sysModules → st.heap.Ns b m → (hidT st.heap H).Ns b m := by
      intro b m nb h
      obtain ⟨o, es, ep, e, d, r⟩ := h
      refine ⟨o, es, ep, low e (clear e (fun us n z => ?_) nb fun z => ?_), d, r⟩
      · rw [d] at z; cases z
      · rw [d] at z; cases z
    have kLow : K.In (hidT st.heap H) := by
      intro b o e
      refine low (hK b o e) ?_
      cases q : H b with
      | none => rfl
      | some u =>
        rw [f0.notK b (by rw [q]; exact fun y => nomatch y)] at e
        cases e
    have modLow : Mod K mg (hidT st.heap H) := by
      obtain ⟨mc, c1, c2⟩ := hL
      exact ⟨kLow, nsLow (by decide) hG, ⟨mb, nsLow (by decide) hB, hBB⟩, ⟨mc, nsLow (by decide) c1, c2⟩⟩
    have tabLow : ∀ p ∈ cs, LamX.TabB (hidT st.heap H) mg p.1 p.2 := by
      intro p hp
      refine ⟨?_, ?_, fun z => ?_⟩
      · obtain ⟨o, us, file, tf, flags, tg, inF, text, tt, e1, r1, r2, r3, rest⟩ := hC p hp
        refine ⟨o, us, file, tf, flags, tg, inF, text, tt, low e1 (clear e1 (fun vs n z => ?_) (fun z => ?_) fun z => ?_), r1, r2, r3, rest⟩
        · rw [r2] at z; cases z
        · rw [z, gS] at e1
          cases e1
          rw [r1] at cS
          exact absurd cS (by decide)
        · rw [r2] at z
          cases z
          simp at r3
      · obtain ⟨bm, ob, b1, b2, b3, b4, b5, b6⟩ := hbm
        refine ⟨bm, ob, b1, b2, fun q => ?_, fun q => ?_, low b3 (clear b3 (fun vs n z => ?_) (fun z => ?_) fun z => ?_), b4, b5, b6⟩
        · obtain ⟨o, es, ep, e, hd, _⟩ := hG
          rw [q, e] at b3
          cases b3
          rw [hd] at b6
          cases b6
        · rw [q, hT p hp] at b3
          cases b3
          cases b6
        · rw [b6] at z; cases z
        · rw [z, gS] at b3
          cases b3
          rw [b4] at cS
          exact absurd cS (by decide)
        · rw [b6] at z; cases z
      · obtain ⟨o, es, ep, e, hd, _⟩ := hG
        rw [z, hT p hp] at e
        cases e
        cases hd
    have start0 : Env0 P w K mg (hidT st.heap H) callerA [] st H := by
      refine ⟨rfl, modLow, fun b o e => of_hidT e, Nat.le_of_eq (hidT_size _ _), trivial, fun b hb => ?_, hho, .of_eq hgen⟩
      exact nomatch (show b ∈ ([] : List Addr) from hb)
    refine codeAny_mono ((F _ kLow (nsLow (by decide) hG) tabLow).go callerA [] st H ⟨[.ref a], []⟩ [.ref a] [.ref a] _ _ rfl hroom start0 (hbd st (.ref a) hK) (.cons rfl .nil) (hprom H f0 hsq)) fun r s' h => ?_
    match r, h with
    | .error e, h =>
      obtain ⟨_, _, _, _, _, _, _, _, _, _, _, _, z⟩ := h
      exact z.elim
    | .ok .next, h => exact (show False from h).elim
    | .ok .brk, h => exact (show False from h).elim
    | .ok .cont, h => exact (show False from h).elim
    | .ok (.ret u), h =>
      obtain ⟨v, H2, e1, e2, un, h2, rv, q⟩ := h
      have q : v = .bl true := q
      subst q
      have eu : u = Value.bool true := rv
      subst eu
      -- all but the tables stand as they were
      have same : ∀ b o, (¬ ∃ p ∈ cs, b = p.2) → st.heap.get? b = some o → s'.heap.get? b = some o := by
        intro b o nb e
        rcases f0.kind b with z | z | ⟨ob, u, z⟩
        · exact un.keep b o e z (fun z => nomatch (show b ∈ ([] : List Addr) from z)) (fun z => nomatch z)
        · exact absurd z nb
        · obtain ⟨g1, _⟩ := hho b _ z
          obtain ⟨g2, _⟩ := h2 b _ (un.frzs b ob _ z)
          rw [e] at g1
          cases g1
          exact g2
      have more : ∀ p ∈ cs, ∃ m : Array Value, s'.heap.get? p.2 = some { cls := .none, data := .fields m } := by
        intro p hp
        obtain ⟨m, z⟩ := un.tbls p.2 #[] (f0.tab p hp)
        exact ⟨_, h2 p.2 _ z⟩
      refine ⟨rfl, ⟨fun b o e => ?_, fun b o e => ?_⟩, e1, e2⟩
      · by_cases hb : ∃ p ∈ cs, b = p.2
        · obtain ⟨p, hp, rfl⟩ := hb
          obtain ⟨m, hm⟩ := more p hp
          rw [hT p hp] at e
          cases e
          exact .inr (.inl ⟨((hC p hp).tab (hT p hp)).isCodeTable, rfl, #[], m, rfl, by rw [Array.empty_append]; exact hm⟩)
        · exact .inl (same b o hb e)
      · by_cases hb : ∃ p ∈ cs, b = p.2
        · obtain ⟨p, hp, rfl⟩ := hb
          obtain ⟨m, hm⟩ := more p hp
          exact ⟨_, hm⟩
        · exact ⟨o, same b o hb e⟩
  -- the script's list and sys.modules are no tables
  have aT : ¬ ∃ p ∈ cs, a = p.2 := fun ⟨p, hp, z⟩ => by
    have q := hT p hp
    rw [← z, hget] at q
    exact nomatch (congrArg Obj.data (Option.some.inj q))
  have sT : ¬ ∃ p ∈ cs, sysModules = p.2 := fun ⟨p, hp, z⟩ => by
    have q := hT p hp
    rw [← z, gS] at q
    cases q
    exact nomatch cS
  have aS : a ≠ sysModules := fun z => by
    rw [z, gS] at hget
    cases hget
    have cS : Value.type "list" = .type "dict" := cS
    exact absurd cS (by decide)
  let H0 : Hp := fun b => if (∃ p ∈ cs, b = p.2) then some (.tbl #[]) else if b = sysModules then some (.frz oS (.own 0)) else if b = a ∧ K.lookup a = none then some (.frz { cls := .type "list", data := .seq vs.toArray } (.lst (ns.map V.int))) else none
  have h0T : ∀ p ∈ cs, H0 p.2 = some (.tbl #[]) := fun p hp => if_pos ⟨p, hp, rfl⟩
  have h0S : H0 sysModules = some (.frz oS (.own 0)) := (if_neg sT).trans (if_pos rfl)
  have h0 : ∀ b u, H0 b = some u → (∃ p ∈ cs, b = p.2 ∧ u = .tbl #[]) ∨ (b = sysModules ∧ u = .frz oS (.own 0)) ∨ (b = a ∧ K.lookup a = none ∧ u = .frz { cls := .type "list", data := .seq vs.toArray } (.lst (ns.map V.int))) := by
    intro b u h
    by_cases z : ∃ p ∈ cs, b = p.2
    · have h := (if_pos z).symm.trans h
      cases h
      obtain ⟨p, hp, e⟩ := z
      exact .inl ⟨p, hp, e, rfl⟩
    · have h := (if_neg z).symm.trans h
      by_cases z2 : b = sysModules
      · have h := (if_pos z2).symm.trans h
        cases h
        exact .inr (.inl ⟨z2, rfl⟩)
      · have h := (if_neg z2).symm.trans h
        by_cases z3 : b = a ∧ K.lookup a = none
        · have h := (if_pos z3).symm.trans h
          cases h
          exact .inr (.inr ⟨z3.1, z3.2, rfl⟩)
        · have h := (if_neg z3).symm.trans h
          cases h
  refine main H0 ⟨h0T, ⟨oS, h0S, cS⟩, fun b => ?_, fun b nb => ?_, fun b nb => ?_⟩ ?_ fun b u h => ?_
  · cases q : H0 b with
    | none => exact .inl rfl
    | some u =>
      rcases h0 b u q with ⟨p, hp, e, _⟩ | ⟨_, rfl⟩ | ⟨_, _, rfl⟩
      · exact .inr (.inl ⟨p, hp, e⟩)
      · exact .inr (.inr ⟨_, _, rfl⟩)
      · exact .inr (.inr ⟨_, _, rfl⟩)
  · cases q : H0 b with
    | none => exact absurd q nb
    | some u =>
      rcases h0 b u q with ⟨p, hp, e, _⟩ | ⟨e, _⟩ | ⟨e, _, _⟩
      · exact .inr (.inr ⟨p, hp, e⟩)
      · exact .inr (.inl e)
      · exact .inl e
  · cases q : H0 b with
    | none => exact absurd q nb
    | some u =>
      rcases h0 b u q with ⟨p, hp, e, _⟩ | ⟨e, _⟩ | ⟨e, ek, _⟩
      · rw [e]; exact nT p hp
      · rw [e]; exact nsm
      · rw [e]; exact ek
  · cases q : K.lookup a with
    | some o =>
      have e := hK a o q
      rw [hget] at e
      cases e
      refine .inr ⟨_, vs.toArray, _, q, rfl, rfl, rfl, ?_, ?_⟩
      · rw [List.size_toArray, hsame]; exact hlen
      · rw [List.toList_toArray]; exact hvals
    | none => exact .inl (.inr ⟨{ cls := .type "list", data := .seq vs.toArray }, (if_neg aT).trans ((if_neg aS).trans (if_pos ⟨rfl, q⟩))⟩)
  · rcases h0 b u h with ⟨p, hp, rfl, rfl⟩ | ⟨rfl, rfl⟩ | ⟨rfl, _, rfl⟩
    · exact hT p hp
    · exact ⟨gS, ⟨_, gS⟩⟩
    · exact ⟨hget, by rw [List.length_map]; exact hlen, vs, _, hvals, hget⟩
end
/-- a law whose plain text tells True of every script -/
theorem walkG {l : PySem.W.OpenLaw} {n k : Nat} {q : Program} {loose : List Str} {XP : (Str → Option Value) → Heap → Prop} {YP : World → Heap → Prop} {d : DefRec} {x : Str} {G : Glob} {C : Callee} {fl : Nat} {fn : Fn}
    (hn : l.most = some n) (hn2 : n ≤ sizeLine) (hdf : d.params.defaults = []) (hr : Room (k + 2) callerA) (hps : fn.ps = [x]) (hms : fn.modes = [false])
    (F : ∀ (w : World) (mg : Str → Option Value) (fa : Addr) (h : Heap), YP w h → h.Ns mainGlobals mg → mg d.name = some (.ref fa) → ∃ (K : PySem.W.Frag) (fd : FuncData) (T : List (Addr × Str)) (cs : List (Addr × Addr)), K.In h ∧ (∀ (s : Shared) (u : Value), K.In s.heap → BindsTo s fd ⟨[u], []⟩ [(x, u)]) ∧
      (∃ o : Obj, h.get? sysModules = some o ∧ o.cls = .type "dict") ∧ K.lookup sysModules = none ∧ (∀ p ∈ cs, h.get? p.2 = some { cls := .none, data := .fields #[] }) ∧ (∀ p ∈ cs, K.lookup p.2 = none) ∧ (∀ p ∈ cs, PySem.W.CodeHd h p.1 p.2) ∧ (∀ t ∈ T, ∃ p ∈ cs, t.1 = p.2) ∧
      ∀ base : Heap, K.In base → base.Ns mainGlobals mg → (∀ p ∈ cs, LamX.TabB base mg p.1 p.2) → FnG l.prog w K mg base (CX l.prog w) k fa fd fn.ps (@spF ⟨T⟩ G K C fl fn))
    (plain : ∀ ns : List Int, ns.length ≤ n → C fl [.lst (ns.map .int)] = .ret (.fz (.bl true)) []) : PySem.W.WalkO q loose XP YP l.row.toRowW d [] (fun f vs => PySem.call f vs) := by
  refine Att.attach_call hn hdf fun w s0 s1 mg mb fa o pm cd doc a vs ns Gd Y ho hd hcd hmg hobj hints hlen hg => ?_
  obtain ⟨K, fd, T, cs, KX, hb, hsm, nsm, hT, nT, hC, hTc, hF⟩ := F w mg fa _ Y Gd.T.g hmg
  rw [hps] at hF
  letI : Tb := ⟨T⟩
  refine lawG KX Gd.T.g Gd.T.b Gd.T.builtins Gd.T.nolimit hg Gd.T.bmain hsm nsm hT nT hC hobj hints (Nat.le_trans hlen hn2) hr hF hb fun H f0 hS => ?_
  refine ⟨fun _ => False, [.lst (ns.map .int)], by rw [hps]; rfl, ?_, ?_, ⟨fun _ z => z.elim, fun t ht => ?_, f0.sm⟩, ?_⟩
  · rw [hms]
    refine ⟨⟨a, ns.map V.int, rfl, .inl id, hS, ?_⟩, trivial⟩
    clear hlen hints hS
    induction ns with
    | nil => rfl
    | cons i r ih => exact ⟨_, _, rfl, rfl, ih⟩
  · rw [hms]
    exact List.nodup_nil
  · obtain ⟨p, hp, e⟩ := hTc t ht
    exact .nil (by rw [e]; exact f0.tab p hp)
  · rw [plain ns hlen]
    exact fun v H' O' _ r => r

/-! ### written dicts at the head: text keys, ints -/
def entOf (e : DictEntry) : Option (Str × Int × Int) := match e.key, e.val with
  | .str x _, .int i _ => some (x, e.hash, i)
  | _, _ => none
def tabV (P : Params) : List (Key × D) → List (Option (Str × Int × Int))
  | [] => []
  | (.inr k, .int i) :: l => some (k, PyData.keyHash P k, i) :: tabV P l
  | _ :: l => none :: tabV P l
def tabG : List (Key × D) → Bool
  | [] => true
  | (.inr _, .int _) :: l => tabG l
  | _ => false
def dicE (K : PySem.W.Frag) (a : Addr) : Option (List (Option (Str × Int × Int))) := match K.lookup a with
  | some ⟨.type c, none, .dict es _, sl⟩ => (match decide (c = "dict") && (sl.isEmpty && !(a == sysModules)) with
    | true => some (es.toList.map entOf)
    | false => none)
  | _ => none
theorem entOf_ok {e : DictEntry} {x : Str} {h i : Int} (q : entOf e = some (x, h, i)) : ∃ t t2, e.key = .str x t ∧ e.hash = h ∧ e.val = .int i t2 := by
  unfold entOf at q
  split at q
  · rename_i a t b t2 h1 h2
    cases q
    exact ⟨t, t2, h1, rfl, h2⟩
  · cases q
theorem lit_of {P : Params} : ∀ {l : List DictEntry} {ks : List (Key × D)}, tabG ks = true → l.map entOf = tabV P ks → PySem.W.KeysLit P l
  | [], _, _, _ => trivial
  | e :: r, [], _, h => by cases h
  | e :: r, (.inr k, .int i) :: ks, g, h => by
    have h1 : entOf e :: r.map entOf = some (k, PyData.keyHash P k, i) :: tabV P ks := h
    injection h1 with h2 h3
    obtain ⟨t, t2, q1, q2, q3⟩ := entOf_ok h2
    exact ⟨⟨k, t, q1, q2⟩, lit_of (ks := ks) g h3⟩
  | e :: r, (.inl k, d) :: ks, g, h => nomatch g
theorem find_of {P : Params} (z : Str) : ∀ {l : List DictEntry} {ks : List (Key × D)}, tabG ks = true → l.map entOf = tabV P ks →
    (kget ks (.inr z) = none → l.find? (·.key.isStr z) = none ∧ l.any (·.refKey) = false) ∧ ∀ x, kget ks (.inr z) = some x → ∃ (i : Int) (e : DictEntry) (t : _), x = .int i ∧ l.find? (·.key.isStr z) = some e ∧ e.val = .int i t
  | [], [], _, _ => ⟨fun _ => ⟨rfl, rfl⟩, fun _ h => nomatch h⟩
  | [], (.inr k, .int i) :: ks, _, h => by cases h
  | e :: r, [], _, h => by cases h
  | [], (.inl k, d) :: ks, g, h => nomatch g
  | e :: r, (.inl k, d) :: ks, g, h => nomatch g
  | e :: r, (.inr k, .int i) :: ks, g, h => by
    have h1 : entOf e :: r.map entOf = some (k, PyData.keyHash P k, i) :: tabV P ks := h
    injection h1 with h2 h3
    obtain ⟨t, t2, q1, q2, q3⟩ := entOf_ok h2
    obtain ⟨i1, i2⟩ := find_of (P := P) z (ks := ks) g h3
    have hr : e.refKey = false := by
      unfold DictEntry.refKey
      rw [q1]
    have ek : e.key.isStr z = decide (k = z) := by
      rw [q1]
      show (k == z) = _
      exact rfl
    by_cases hz : k = z
    · subst hz
      have e0 : kget ((Sum.inr k, D.int i) :: ks) (.inr k) = some (.int i) := by simp [kget]
      rw [e0]
      refine ⟨fun y => (by cases y), fun x y => ?_⟩
      cases y
      exact ⟨i, e, t2, rfl, by rw [List.find?_cons, ek, decide_eq_true rfl], q3⟩
    · have e0 : kget ((Sum.inr k, D.int i) :: ks) (.inr z) = kget ks (.inr z) := by simp [kget, hz]
      rw [e0]
      have ef : (e :: r).find? (·.key.isStr z) = r.find? (·.key.isStr z) := by rw [List.find?_cons, ek, decide_eq_false hz]
      have ea : (e :: r).any (·.refKey) = r.any (·.refKey) := by rw [List.any_cons, hr, Bool.false_or]
      rw [ef, ea]
      exact ⟨i1, i2⟩
theorem tab_of {K : PySem.W.Frag} {w : World} {mg : Str → Option Value} {x : Str} {l : List (Key × D)} (hm : mg x = some (.ref (He.ga K x))) (g : tabG l = true) (h : dicE K (He.ga K x) = some (tabV w.params l)) : TabOk K w mg x l := by
  unfold dicE at h
  split at h
  · rename_i c es n sl q
    split at h
    · rename_i z
      simp only [Bool.and_eq_true, decide_eq_true_eq, Bool.not_eq_true'] at z
      obtain ⟨z1, z2, z3⟩ := z
      have e2 : sl = #[] := Array.isEmpty_iff.mp z2
      subst z1 e2
      have h := Option.some.inj h
      refine ⟨He.ga K x, es, n, hm, ⟨q, lit_of g h, z3⟩, fun z => ?_⟩
      obtain ⟨f1, f2⟩ := find_of z g h
      unfold PySem.W.nsIn
      rw [q]
      refine ⟨fun y => ?_, fun d y => ?_⟩
      · obtain ⟨y1, y2⟩ := f1 y
        simp only [y1, y2]
        rfl
      · obtain ⟨i, e, t, y1, y2, y3⟩ := f2 d y
        refine ⟨i, _, y1, ?_, ⟨t, rfl⟩⟩
        simp only [y2, y3]
    · cases h
  · cases h
/-! ### classes of errors at the head -/
def bmX : Nat → List Value
  | 0 => bmVE
  | 1 => bmOE
  | _ => bmRE
def newX : Nat → String
  | 0 => "ValueError.__new__"
  | 1 => "OverflowError.__new__"
  | _ => "RuntimeError.__new__"
def initX : Nat → String
  | 0 => "ValueError.__init__"
  | 1 => "OverflowError.__init__"
  | _ => "RuntimeError.__init__"
def baseX : Nat → String
  | 0 => "ValueError"
  | 1 => "OverflowError"
  | _ => "RuntimeError"
theorem xbX (k : Nat) : XBase (baseX k) (newX k) (initX k) (bmX k) := by
  match k with
  | 0 => exact xb_VE
  | 1 => exact xb_OE
  | _ + 2 => exact xb_RE
def xkB (K : PySem.W.Frag) (C : Addr) (bmB : List Value) (newId : String) : Bool := match K.lookup C with
  | some ⟨.type "type", _, .cls cd, sl⟩ => (match cd.mro, sl.toList with
    | .ref C' :: bm, [_, _, _, _, some (.builtin n), _] => C' == C && n == newId && !cd.hasDel && cd.hasDict && refsB bmB bm
    | _, _ => false)
  | _ => false
theorem xkB_ok {K : PySem.W.Frag} {C : Addr} {bmB : List Value} {newId : String} (q : xkB K C bmB newId = true) :
    ∃ nm qn N bs bm sn sub ab col dd k0 k1 k2 k3 k5, K.lookup C = some (excClassObj nm qn C N bs bm true sn sub ab col dd k0 k1 k2 k3 k5 newId) ∧ refsB bmB bm = true := by
  unfold xkB at q
  split at q
  · rename_i dd cd sl ho
    split at q
    · rename_i C' bm k0 k1 k2 k3 n k5 hm hs
      simp only [Bool.and_eq_true, beq_iff_eq, Bool.not_eq_true'] at q
      obtain ⟨⟨⟨⟨rfl, rfl⟩, hdel⟩, hd⟩, ht⟩ := q
      obtain ⟨nm, bs, mro, ns, qn, hd', sn, sub, ab, col, del⟩ := cd
      dsimp only at hm hdel hd
      subst hm hdel hd
      have hsl : sl = #[k0, k1, k2, k3, some (.builtin n), k5] := by
        obtain ⟨l⟩ := sl
        simp only at hs
        rw [hs]
      subst hsl
      exact ⟨nm, qn, ns, bs, bm, sn, sub, ab, col, dd, k0, k1, k2, k3, k5, ho, ht⟩
    · cases q
  · cases q
def isInit (id : String) : Option PySem.W.CFound → Bool
  | some (.val (.builtin n)) => n == id
  | _ => false
theorem isInit_ok {id : String} {o : Option PySem.W.CFound} (h : isInit id o = true) : o = some (.val (.builtin id)) := by
  unfold isInit at h
  split at h
  · rw [beq_iff_eq.mp h]
  · cases h
def ecB (K : PySem.W.Frag) (C : Addr) : Bool := He.eqO (PySem.W.findIn K (.ref C) "__class__") (some (some (.builtin "object.__class__"))) && (He.eqO (PySem.W.specialIn K (.builtin "object.__class__") "__get__") (some (some (.builtin "getset_descriptor.__get__"))) &&
  (decide (PySem.W.takesIn K (.builtin "object.__class__") = some true) && decide (PySem.W.mroIn K C (.type "object") = some true)))
/-- a class that is asked for: built-in, or the program's own -/
def bltT (t : Str) : Bool := decide (t = "ValueError") || (decide (t = "OverflowError") || decide (t = "RuntimeError"))
def tyT (t : Str) : String := if t = "ValueError" then "ValueError" else if t = "OverflowError" then "OverflowError" else "RuntimeError"
theorem bltT_ok {t : Str} (h : bltT t = true) : (t == ("__debug__" : Str)) = false ∧ t ≠ "__name__" ∧ bootBuiltins t = some (.type (tyT t)) := by
  unfold bltT at h
  simp only [Bool.or_eq_true, decide_eq_true_eq] at h
  rcases h with h | h | h <;> (subst h; decide +kernel)
def xcB (K : PySem.W.Frag) (ts : List Str) (x : Xc) : Bool := xkB K (He.ga K x.c) (bmX x.k) (newX x.k) && (He.eqO (PySem.W.findIn K (.ref (He.ga K x.c)) "__setattr__") (some (some (.builtin "object.__setattr__"))) && (decide (PySem.W.typeIn K (.ref (He.ga K x.c)) = some (.type "type")) && (PySem.W.keepIn K (.ref (He.ga K x.c)) &&
  ((if x.k = 0 then PySem.W.readsIn K (He.ga K x.b) (.type "type") && (He.eqO (PySem.W.specialIn K (.ref (He.ga K x.b)) "__getattribute__") (some (some (.builtin "type.__getattribute__"))) && isInit (initX x.k) (PySem.W.findCls K (.ref (He.ga K x.b)) (.type "type") "__init__"))
    else bltT x.b && (tyT x.b == baseX x.k && isInit (initX x.k) (PySem.W.findCls K (.type (baseX x.k)) (.type "type") "__init__"))) &&
  (xfB K (He.ga K x.c) && (ecB K (He.ga K x.c) && ts.all fun t => decide (PySem.W.kitOne K (.ref (He.ga K x.c)) (if bltT t = true then .type (tyT t) else .ref (He.ga K t)) = some (x.sup.contains t))))))))
/-! ### makers of lambdas at the head -/
def codeAt (K : PySem.W.Frag) (nm : Str) : Addr := match K.lookup (He.ga K nm) with
  | some ⟨_, _, .func fd, _⟩ => (match fd.code with
    | .ref c => c
    | _ => 0)
  | _ => 0
def tblAt (K : PySem.W.Frag) (nm : Str) : Addr := match K.lookup (codeAt K nm) with
  | some ⟨_, _, .fields vs, _⟩ => (match vs.toList[11]? with
    | some (Value.ref P) => P
    | _ => 0)
  | _ => 0
def isStrV0 : Value → Bool
  | .str _ _ => true
  | _ => false
def isIntV0 : Value → Bool
  | .int _ _ => true
  | _ => false
def isBoolV0 : Value → Bool
  | .bool _ => true
  | _ => false
def codeB (K : PySem.W.Frag) (nm : Str) : Bool := match K.lookup (codeAt K nm) with
  | some ⟨cl, _, .fields vs, _⟩ => decide (cl = .type "code") && (decide (vs[11]? = some (.ref (tblAt K nm))) && (decide (vs.getD 11 .none = .ref (tblAt K nm)) && (isStrV0 (vs.getD 18 .none) && (isIntV0 (vs.getD 7 .none) && (isBoolV0 (vs.getD 9 .none) && (isIntV0 (vs.getD 10 .none) &&
    (decide (codeAt K nm ≠ tblAt K nm) && (K.lookup (tblAt K nm)).isNone)))))))
  | _ => false
theorem codeB_ok {K : PySem.W.Frag} {nm : Str} {h : Heap} (X : K.In h) (q : codeB K nm = true) : PySem.W.CodeHd h (codeAt K nm) (tblAt K nm) ∧ K.lookup (tblAt K nm) = none := by
  unfold codeB at q
  split at q
  · rename_i cl dd vs sl ho
    obtain ⟨q1, q⟩ := Bool.and_eq_true_iff.mp q
    obtain ⟨q2, q⟩ := Bool.and_eq_true_iff.mp q
    obtain ⟨q3, q⟩ := Bool.and_eq_true_iff.mp q
    obtain ⟨q4, q⟩ := Bool.and_eq_true_iff.mp q
    obtain ⟨q5, q⟩ := Bool.and_eq_true_iff.mp q
    obtain ⟨q6, q⟩ := Bool.and_eq_true_iff.mp q
    obtain ⟨q7, q⟩ := Bool.and_eq_true_iff.mp q
    obtain ⟨q8, q9⟩ := Bool.and_eq_true_iff.mp q
    have e4 : ∃ a t, vs.getD 18 .none = .str a t := by
      cases z : vs.getD 18 .none <;> rw [z] at q4 <;> first | exact ⟨_, _, rfl⟩ | cases q4
    have e5 : ∃ a t, vs.getD 7 .none = .int a t := by
      cases z : vs.getD 7 .none <;> rw [z] at q5 <;> first | exact ⟨_, _, rfl⟩ | cases q5
    have e6 : ∃ a, vs.getD 9 .none = .bool a := by
      cases z : vs.getD 9 .none <;> rw [z] at q6 <;> first | exact ⟨_, rfl⟩ | cases q6
    have e7 : ∃ a t, vs.getD 10 .none = .int a t := by
      cases z : vs.getD 10 .none <;> rw [z] at q7 <;> first | exact ⟨_, _, rfl⟩ | cases q7
    obtain ⟨file, tf, e4⟩ := e4
    obtain ⟨flags, tg, e5⟩ := e5
    obtain ⟨inF, e6⟩ := e6
    obtain ⟨text, tt, e7⟩ := e7
    exact ⟨⟨_, vs, file, tf, flags, tg, inF, text, tt, X _ _ ho, of_decide_eq_true q1, rfl, of_decide_eq_true q2, of_decide_eq_true q3, e4, e5, e6, e7, of_decide_eq_true q8⟩, Option.isNone_iff_eq_none.mp q9⟩
  · cases q
def emptyB (g : Addr → Option Obj) (P : Addr) : Bool := match g P with
  | some ⟨.none, none, .fields vs, sl⟩ => vs.isEmpty && sl.isEmpty
  | _ => false
theorem emptyB_ok {g : Addr → Option Obj} {P : Addr} (q : emptyB g P = true) : g P = some { cls := .none, data := .fields #[] } := by
  unfold emptyB at q
  split at q
  · rename_i vs sl ho
    obtain ⟨q1, q2⟩ := Bool.and_eq_true_iff.mp q
    rw [Array.isEmpty_iff.mp q1, Array.isEmpty_iff.mp q2] at ho
    exact ho
  · cases q
def smB (g : Addr → Option Obj) : Bool := match g sysModules with
  | some o => decide (o.cls = .type "dict")
  | none => false
theorem smB_ok {g : Addr → Option Obj} (q : smB g = true) : ∃ o : Obj, g sysModules = some o ∧ o.cls = .type "dict" := by
  unfold smB at q
  split at q
  · rename_i o ho
    exact ⟨o, ho, of_decide_eq_true q⟩
  · cases q
abbrev TabE : Type := Str × List (Key × D)
abbrev AlE0 : Type := (He.AlD × Bool) × List (Option (List (Option (Str × Int × Int))))
abbrev AlE : Type := AlE0 × Bool
def obsE (xx : Xs) (mk : List Str) (fa : List He.Fa) (fn : List He.DefD) (ts : List TabE) (K : PySem.W.Frag) : AlE0 := ((He.obsD fa fn K, xx.xs.all (xcB K xx.ts) && ((K.lookup sysModules).isNone && mk.all (codeB K))), ts.map fun t => dicE K (He.ga K t.1))
def valE (fn : List He.DefD) (ts : List TabE) (w : World) : AlE0 := ((He.valD fn, true), ts.map fun t => some (tabV w.params t.2))
def obsEG (n : Nat) (xx : Xs) (mk : List Str) (fa : List He.Fa) (fn : List He.DefD) (ts : List TabE) (g : Addr → Option Obj) : AlE := (obsE xx mk fa fn ts (He.frG g (cStatics :: He.asD g n)), smB g && mk.all fun nm => emptyB g (tblAt (He.frG g (cStatics :: He.asD g n)) nm))
def SaysE (xx : Xs) (mk : List Str) (fa : List He.Fa) (fn : List He.DefD) (ts : List TabE) (w : World) (K : PySem.W.Frag) : Prop := obsE xx mk fa fn ts K = valE fn ts w
/-- the heap itself: the modules' dict, the makers' tables -/
def SaysH (mk : List Str) (K : PySem.W.Frag) (h : Heap) : Prop := (∃ o : Obj, h.get? sysModules = some o ∧ o.cls = .type "dict") ∧ ∀ nm ∈ mk, h.get? (tblAt K nm) = some { cls := .none, data := .fields #[] }
def hookE (n : Nat) (xx : Xs) (mk : List Str) (fa : List He.Fa) (fn : List He.DefD) (ts : List TabE) : PySem.W.Hook where
  α := AlE
  obs := fun s => obsEG n xx mk fa fn ts s.heap.get?
  val := fun w => (valE fn ts w, true)
  says := fun w h => ∃ K : PySem.W.Frag, K.In h ∧ SaysE xx mk fa fn ts w K ∧ SaysH mk K h
  of := fun _ _ e => ⟨_, He.frG_in, congrArg (fun z : AlE => z.1) e, by
    obtain ⟨q1, q2⟩ := Bool.and_eq_true_iff.mp (congrArg (fun z : AlE => z.2) e)
    exact ⟨smB_ok q1, fun nm hm => emptyB_ok (List.all_eq_true.mp q2 nm hm)⟩⟩
  keeps := fun _ _ _ ⟨K, hK, c, ⟨o, h1, h2⟩, h3⟩ k => ⟨K, PySem.W.Frag.In.keeps hK k, c, ⟨o, k _ _ h1, h2⟩, fun nm hm => k _ _ (h3 nm hm)⟩
theorem obsEG_eq {n : Nat} {xx : Xs} {mk : List Str} {fa : List He.Fa} {fn : List He.DefD} {ts : List TabE} {g : Addr → Option Obj} {s : Shared} (h : ∀ a, g a = s.heap.get? a) : obsEG n xx mk fa fn ts g = (hookE n xx mk fa fn ts).obs s := by
  have e : g = s.heap.get? := funext h
  rw [e] <;> rfl
theorem SaysE.d {xx : Xs} {mk : List Str} {fa : List He.Fa} {fn : List He.DefD} {ts : List TabE} {w : World} {K : PySem.W.Frag} (c : SaysE xx mk fa fn ts w K) : He.SaysD fa fn K := congrArg (fun z : AlE0 => z.1.1) c
theorem SaysE.tab {xx : Xs} {mk : List Str} {fa : List He.Fa} {fn : List He.DefD} {ts : List TabE} {w : World} {K : PySem.W.Frag} (c : SaysE xx mk fa fn ts w K) {t : TabE} (h : t ∈ ts) : dicE K (He.ga K t.1) = some (tabV w.params t.2) := by
  have e : ts.map (fun t => dicE K (He.ga K t.1)) = ts.map fun t => some (tabV w.params t.2) := congrArg (fun z : AlE0 => z.2) c
  exact List.map_inj_left.mp e t h
theorem SaysE.xc {xx : Xs} {mk : List Str} {fa : List He.Fa} {fn : List He.DefD} {ts : List TabE} {w : World} {K : PySem.W.Frag} (c : SaysE xx mk fa fn ts w K) {x : Xc} (h : x ∈ xx.xs) : xcB K xx.ts x = true := by
  have e : (xx.xs.all (xcB K xx.ts) && ((K.lookup sysModules).isNone && mk.all (codeB K))) = true := congrArg (fun z : AlE0 => z.1.2) c
  exact List.all_eq_true.mp (Bool.and_eq_true_iff.mp e).1 x h
theorem SaysE.mk {xx : Xs} {mk : List Str} {fa : List He.Fa} {fn : List He.DefD} {ts : List TabE} {w : World} {K : PySem.W.Frag} (c : SaysE xx mk fa fn ts w K) : K.lookup sysModules = none ∧ ∀ nm ∈ mk, codeB K nm = true := by
  have e : (xx.xs.all (xcB K xx.ts) && ((K.lookup sysModules).isNone && mk.all (codeB K))) = true := congrArg (fun z : AlE0 => z.1.2) c
  obtain ⟨e1, e2⟩ := Bool.and_eq_true_iff.mp (Bool.and_eq_true_iff.mp e).2
  exact ⟨Option.isNone_iff_eq_none.mp e1, List.all_eq_true.mp e2⟩
/-! ### the text of a law -/
structure Txt where
  fns : List Fn
  dl : List (Str × Stmt)
  n : Nat
  cs : List (Str × D)
  fr : List Str
  kw : List (Nat × List Str × List Nat)
  xx : Xs := ⟨[], []⟩
  xl : List Stmt := []
  mks : List Str := []
/-- a def's place; its qualified name -/
def atF (fn : Fn) (x : Str) : Str × Option Str := match fn.cls with
  | none => (x, none)
  | some c => (c, some x)
def qualF (fn : Fn) (x : Str) : Str := match fn.cls with
  | none => x
  | some c => c ++ "." ++ x
def dfF (q : Fn × Str × Stmt) : He.DefD := ⟨atF q.1 q.2.1, q.2.1, qualF q.1 q.2.1, defArgs q.2.2, defBody q.2.2, defScope q.2.2, [], []⟩
def faF (q : Fn × Str × Stmt) : List He.Fa := match q.1.cls with
  | none => [.glo q.2.1]
  | some c => [.meth c q.2.1, .cls c, .glo c] ++ (if q.2.1 = "__init__" then .mkr c :: q.1.flds.map (.noat c) else [])
def dfX (q : Xc × Stmt) : He.DefD := ⟨(q.1.c, some "__init__"), "__init__", q.1.c ++ ".__init__", defArgs q.2, defBody q.2, defScope q.2, [], []⟩
def faX (x : Xc) : List He.Fa := [.glo x.c, .meth x.c "__init__", .noat x.c x.f, if x.k = 0 then .glo x.b else .free x.b]
def faT (t : Str) : He.Fa := if bltT t = true then .free t else .glo t
def Txt.df (T : Txt) : List He.DefD := (T.fns.zip T.dl).map dfF ++ (T.xx.xs.zip T.xl).map dfX
def faC : Str × D → He.Fa
  | (x, .int i) => .int x i
  | (x, .str s) => .str x s
  | (x, .dk _) => .glo x
  | (x, _) => .free x
def tabC : Str × D → Option TabE
  | (x, .dk l) => some (x, l)
  | _ => none
def Txt.tabs (T : Txt) : List TabE := T.cs.filterMap tabC
def Txt.fa (T : Txt) : List He.Fa := (T.fns.zip T.dl).flatMap faF ++ (T.fr.map .free ++ (T.cs.map faC ++ (T.xx.xs.flatMap faX ++ T.xx.ts.map faT)))
def scB : D → Bool
  | .int _ => true
  | .str _ => true
  | .dk l => tabG l
  | _ => false
def fnScB (N ps : List Str) (sc : Scope) : Bool :=
  decide (sc.kind = .function) && !sc.isCoroutine && !sc.isGenerator && decide N.Nodup && decide (N.take ps.length = ps) && (ps.all fun x => decide (sc.names.lookup x = some .local) || decide (sc.names.lookup x = some .cell)) && (sc.names.all fun y => decide (y.2 ≠ .free))
theorem fnScB_ok {N ps : List Str} {sc : Scope} (h : fnScB N ps sc = true) : FnScope N ps sc := by
  unfold fnScB at h
  simp only [Bool.and_eq_true, decide_eq_true_eq, Bool.not_eq_true', List.all_eq_true, Bool.or_eq_true] at h
  obtain ⟨⟨⟨⟨⟨⟨h1, h2⟩, h3⟩, h4⟩, h5⟩, h6⟩, h7⟩ := h
  exact ⟨h1, h2, h3, h4, h5, h6, h7⟩
def Txt.one (T : Txt) (fn : Fn) (p : Str × Stmt) : Bool :=
  decide (fn.name = p.1) && fnScB fn.ns fn.ps (defScope p.2) && okFn T.fns T.n T.cs T.fr T.kw T.xx (defScope p.2) (defBody p.2) fn && decide (fn.modes.length = fn.ps.length)
def oneX (x : Xc) (st : Stmt) : Bool := fnScB [x.slf, x.prm] [x.slf, x.prm] (defScope st) && initB x (defScope st) (defBody st) && !(x.b == ("__debug__" : Str))
def Txt.ok (T : Txt) : Bool := all2 T.one T.fns T.dl && (T.cs.all fun p => scB p.2) && all2 oneX T.xx.xs T.xl && T.xx.ts.all fun t => !(t == ("__debug__" : Str))
/-- how the def __init__ of each class of errors binds -/
def BindX : List Xc → List Stmt → Prop
  | x :: xs, st :: l => (∀ (kV doc pm : Value) (an : Option Addr) (cdv ct : Value) (u v : Value), bindArgs (PySem.W.fnOf "__init__" (x.c ++ ".__init__") (defArgs st) (defBody st) (defScope st) .none kV doc pm an cdv ct) ⟨[u, v], []⟩ = pure ([x.slf, x.prm].zip [u, v]) ∧
      bindArgs (PySem.W.fnOf "__init__" (x.c ++ ".__init__") (defArgs st) (defBody st) (defScope st) .none kV doc pm an cdv ct) ⟨[u], [(x.prm, v)]⟩ = pure ([x.slf, x.prm].zip [u, v])) ∧ BindX xs l
  | _, _ => True
theorem BindX.get : ∀ {xs : List Xc} {l : List Stmt} {i : Nat} {x : Xc} {st : Stmt}, BindX xs l → xs[i]? = some x → l[i]? = some st → ∀ (kV doc pm : Value) (an : Option Addr) (cdv ct : Value) (u v : Value), bindArgs (PySem.W.fnOf "__init__" (x.c ++ ".__init__") (defArgs st) (defBody st) (defScope st) .none kV doc pm an cdv ct) ⟨[u, v], []⟩ = pure ([x.slf, x.prm].zip [u, v]) ∧
      bindArgs (PySem.W.fnOf "__init__" (x.c ++ ".__init__") (defArgs st) (defBody st) (defScope st) .none kV doc pm an cdv ct) ⟨[u], [(x.prm, v)]⟩ = pure ([x.slf, x.prm].zip [u, v])
  | [], _, _, _, _, _, e, _ => by simp at e
  | _ :: _, [], _, _, _, _, _, e => by simp at e
  | x :: xs, y :: l, 0, x', st, h, e1, e2 => by
    have e1 : some x = some x' := e1
    have e2 : some y = some st := e2
    cases e1
    cases e2
    exact h.1
  | x :: xs, y :: l, i + 1, x', st, h, e1, e2 => BindX.get (xs := xs) (l := l) (i := i) h.2 e1 e2
def BindL : List Fn → List (Str × Stmt) → Prop
  | fn :: fns, p :: dl => (∀ (kV doc pm : Value) (an : Option Addr) (cdv ct : Value) (us : List Value), us.length = fn.ps.length → bindArgs (PySem.W.fnOf p.1 (qualF fn p.1) (defArgs p.2) (defBody p.2) (defScope p.2) .none kV doc pm an cdv ct) ⟨us, []⟩ = pure (fn.ps.zip us)) ∧ BindL fns dl
  | _, _ => True
def KwL (fns : List Fn) (dl : List (Str × Stmt)) : List (Nat × List Str × List Nat) → Prop
  | [] => True
  | (f, nm, pm) :: r => (∀ (fn : Fn) (p : Str × Stmt), fns[f]? = some fn → dl[f]? = some p → ∀ (kV doc pmv : Value) (an : Option Addr) (cdv ct : Value) (us ws : List Value), us.length = nm.length → permL us pm = some ws →
      bindArgs (PySem.W.fnOf p.1 (qualF fn p.1) (defArgs p.2) (defBody p.2) (defScope p.2) .none kV doc pmv an cdv ct) ⟨[], nm.zip us⟩ = pure (fn.ps.zip ws)) ∧ KwL fns dl r
theorem all2_get {A B : Type} {f : A → B → Bool} : ∀ {as : List A} {bs : List B} {i : Nat} {a : A}, all2 f as bs = true → as[i]? = some a → ∃ b, bs[i]? = some b ∧ f a b = true
  | [], _, _, _, _, e => by simp at e
  | _ :: _, [], _, _, h, _ => nomatch h
  | x :: as, y :: bs, 0, a, h, e => by
    have h : (f x y && all2 f as bs) = true := h
    simp only [Bool.and_eq_true] at h
    have e : some x = some a := e
    cases e
    exact ⟨y, rfl, h.1⟩
  | x :: as, y :: bs, i + 1, a, h, e => by
    have h : (f x y && all2 f as bs) = true := h
    simp only [Bool.and_eq_true] at h
    exact all2_get (as := as) (bs := bs) (i := i) h.2 e
theorem BindL.get : ∀ {fns : List Fn} {dl : List (Str × Stmt)} {i : Nat} {fn : Fn} {p : Str × Stmt}, BindL fns dl → fns[i]? = some fn → dl[i]? = some p →
    ∀ (kV doc pm : Value) (an : Option Addr) (cdv ct : Value) (us : List Value), us.length = fn.ps.length → bindArgs (PySem.W.fnOf p.1 (qualF fn p.1) (defArgs p.2) (defBody p.2) (defScope p.2) .none kV doc pm an cdv ct) ⟨us, []⟩ = pure (fn.ps.zip us)
  | [], _, _, _, _, _, e, _ => by simp at e
  | _ :: _, [], _, _, _, _, _, e => by simp at e
  | x :: fns, y :: dl, 0, fn, p, h, e1, e2 => by
    have e1 : some x = some fn := e1
    have e2 : some y = some p := e2
    cases e1
    cases e2
    exact h.1
  | x :: fns, y :: dl, i + 1, fn, p, h, e1, e2 => BindL.get (fns := fns) (dl := dl) (i := i) h.2 e1 e2
theorem KwL.get {fns : List Fn} {dl : List (Str × Stmt)} {f : Nat} {nm : List Str} {pm : List Nat} : ∀ {l : List (Nat × List Str × List Nat)}, KwL fns dl l → (f, nm, pm) ∈ l → ∀ (fn : Fn) (p : Str × Stmt), fns[f]? = some fn → dl[f]? = some p → ∀ (kV doc pmv : Value) (an : Option Addr) (cdv ct : Value) (us ws : List Value), us.length = nm.length → permL us pm = some ws →
      bindArgs (PySem.W.fnOf p.1 (qualF fn p.1) (defArgs p.2) (defBody p.2) (defScope p.2) .none kV doc pmv an cdv ct) ⟨[], nm.zip us⟩ = pure (fn.ps.zip ws)
  | [], _, h => nomatch h
  | (f', nm', pm') :: r, h, m => by
    rcases List.mem_cons.mp m with e | m
    · cases e
      exact h.1
    · exact KwL.get h.2 m
section
variable [Tb] {T : Txt} {G : Glob} {P : Program} {w : World} {K : PySem.W.Frag} {mg : Str → Option Value} {h : Heap}
theorem Txt.fact {f : He.Fa} (c : He.SaysD T.fa T.df K) (hf : f ∈ T.fa) : f.ok K = true := by
  obtain ⟨i, hi, e⟩ := List.getElem_of_mem hf
  exact c.fact i (f := f) (by rw [List.getElem?_eq_getElem hi, e])
theorem Txt.defs (hok : T.ok = true) (hb : BindL T.fns T.dl) (hk : KwL T.fns T.dl T.kw) (hK : K.In h) (hG : h.Ns mainGlobals mg) (c : He.SaysD T.fa T.df K) : ∀ f fn, T.fns[f]? = some fn → ∃ fd, DefOk G P w K mg T.fns T.n T.cs T.fr T.kw T.xx f fn (He.fAd K (atF fn fn.name)) fd := by
  intro f fn hf
  unfold Txt.ok at hok
  simp only [Bool.and_eq_true] at hok
  obtain ⟨p, hp, h1⟩ := all2_get hok.1.1.1 hf
  unfold Txt.one at h1
  simp only [Bool.and_eq_true, decide_eq_true_eq] at h1
  obtain ⟨⟨⟨e1, e2⟩, e3⟩, e4⟩ := h1
  have hz : (T.fns.zip T.dl)[f]? = some (fn, p) := List.getElem?_zip_eq_some.mpr ⟨hf, hp⟩
  obtain ⟨fd, F⟩ := c.def_ f (d := dfF (fn, p)) (by unfold Txt.df; rw [List.getElem?_append_left (by rw [List.length_map]; exact (List.getElem?_eq_some_iff.mp hz).1), List.getElem?_map, hz]; rfl)
  have F : FunD K fn.name (qualF fn p.1) (defArgs p.2) (defBody p.2) (defScope p.2) [] [] (He.fAd K (atF fn fn.name)) fd := by rw [e1]; exact F
  have fm : ∀ g, g ∈ faF (fn, p) → g.ok K = true := fun g hg => Txt.fact c (by
    unfold Txt.fa
    exact List.mem_append_left _ (List.mem_flatMap.mpr ⟨_, List.mem_of_getElem? hz, hg⟩))
  refine ⟨fd, ⟨qualF fn p.1, _, _, _, F, fnScB_ok e2, e3⟩, fun cn hc => ?_, fun hc => ?_, F.bindsN fun kV doc pm an cdv ct us hl => by rw [e1]; exact hb.get hf hp kV doc pm an cdv ct us hl, e4, fun nm pm hm s us ws _ hl hpm => ?_⟩
  · have ea : He.fAd K (atF fn fn.name) = He.ma K (He.ga K cn) fn.name := by
      unfold atF He.fAd
      rw [hc]
    have ef : faF (fn, p) = [.meth cn p.1, .cls cn, .glo cn] ++ (if p.1 = "__init__" then .mkr cn :: fn.flds.map (.noat cn) else []) := by
      unfold faF
      simp only [hc]
    rw [ea]
    refine ⟨?_, ?_, ?_, fun hi => ⟨?_, fun g hg => ?_⟩⟩
    · rw [e1]
      exact He.meth_ok (fm _ (by rw [ef]; simp))
    · exact He.cls_ok (fm _ (by rw [ef]; simp))
    · exact He.glo_ok hK hG (fm _ (by rw [ef]; simp))
    · rw [hi]
      exact He.mkr_ok (fm _ (by rw [ef, if_pos (by rw [← e1]; exact hi)]; simp))
    · exact He.noat_ok (fm _ (by
        rw [ef, if_pos (by rw [← e1]; exact hi)]
        exact List.mem_append_right _ (List.mem_cons_of_mem _ (List.mem_map.mpr ⟨g, hg, rfl⟩))))
  · have ea : He.fAd K (atF fn fn.name) = He.ga K fn.name := by
      unfold atF He.fAd
      rw [hc]
    rw [ea, e1]
    exact He.glo_ok hK hG (fm _ (by unfold faF; simp only [hc]; simp))
  · obtain ⟨oc, od, dV, kV, doc, pmv, an, cdv, ct, osl, rfl, lk, hcd, hD, _⟩ := F.ex
    rcases hD with ⟨_, rfl⟩ | ⟨z, _⟩
    · refine .of_eq ?_
      rw [e1]
      exact hk.get hm fn p hf hp kV doc pmv an cdv ct us ws hl hpm
    · exact absurd rfl z
theorem Txt.cst (hok : T.ok = true) (hK : K.In h) (hG : h.Ns mainGlobals mg) (c : SaysE T.xx T.mks T.fa T.df T.tabs w K) : CsOk K w mg T.cs := by
  intro x d hl
  have hm : (x, d) ∈ T.cs := by
    clear c hok
    generalize T.cs = l at hl
    induction l with
    | nil => cases hl
    | cons p r ih =>
      obtain ⟨y, e⟩ := p
      rw [List.lookup_cons] at hl
      cases q : x == y with
      | true =>
        rw [q] at hl
        have z : x = y := by simpa using q
        subst z
        cases hl
        exact List.mem_cons_self
      | false =>
        rw [q] at hl
        exact List.mem_cons_of_mem _ (ih hl)
  have h2 : scB d = true := by
    unfold Txt.ok at hok
    simp only [Bool.and_eq_true, List.all_eq_true] at hok
    exact hok.1.1.2 (x, d) hm
  have hf : faC (x, d) ∈ T.fa := by
    unfold Txt.fa
    exact List.mem_append_right _ (List.mem_append_right _ (List.mem_append_left _ (List.mem_map.mpr ⟨_, hm, rfl⟩)))
  obtain ⟨i, hi, e⟩ := List.getElem_of_mem hf
  have g := c.d.fact i (f := faC (x, d)) (by rw [List.getElem?_eq_getElem hi, e])
  cases d with
  | int i =>
    obtain ⟨t, q⟩ := He.int_ok hK hG g
    exact .inl ⟨_, .int i, q, rfl, ⟨t, rfl⟩⟩
  | str s =>
    obtain ⟨t, q⟩ := He.str_ok hK hG g
    exact .inl ⟨_, .str s, q, rfl, ⟨t, rfl⟩⟩
  | dk l => exact .inr ⟨l, rfl, tab_of (He.glo_ok hK hG g) h2 (c.tab (t := (x, l)) (List.mem_filterMap.mpr ⟨_, hm, rfl⟩))⟩
  | _ => exact nomatch h2
theorem Txt.free (hK : K.In h) (hG : h.Ns mainGlobals mg) (c : He.SaysD T.fa T.df K) : ∀ x, x ∈ T.fr → mg x = none := by
  intro x hx
  have hf : He.Fa.free x ∈ T.fa := by
    unfold Txt.fa
    exact List.mem_append_right _ (List.mem_append_left _ (List.mem_map.mpr ⟨_, hx, rfl⟩))
  obtain ⟨i, hi, e⟩ := List.getElem_of_mem hf
  exact He.free_ok hK hG (c.fact i (f := .free x) (by rw [List.getElem?_eq_getElem hi, e]))
/-- the classes of errors -/
theorem Txt.xcd (hok : T.ok = true) (hx : BindX T.xx.xs T.xl) (hK : K.In h) (hG : h.Ns mainGlobals mg) (c : SaysE T.xx T.mks T.fa T.df T.tabs w K) : ∀ x ∈ T.xx.xs, XcD K mg x := by
  intro x hm
  obtain ⟨i, hi, e⟩ := List.getElem_of_mem hm
  have hxi : T.xx.xs[i]? = some x := by rw [List.getElem?_eq_getElem hi, e]
  unfold Txt.ok at hok
  simp only [Bool.and_eq_true] at hok
  obtain ⟨st, hst, h1⟩ := all2_get hok.1.2 hxi
  unfold oneX at h1
  simp only [Bool.and_eq_true, Bool.not_eq_true'] at h1
  have hl : T.fns.length = T.dl.length := by
    have key : ∀ {A B : Type} {f : A → B → Bool} {as : List A} {bs : List B}, all2 f as bs = true → as.length = bs.length := by
      intro A B f as
      induction as with
      | nil =>
        intro bs h
        cases bs with
        | nil => rfl
        | cons _ _ => exact nomatch h
      | cons a as ih =>
        intro bs h
        cases bs with
        | nil => exact nomatch h
        | cons b bs =>
          have h : (f a b && all2 f as bs) = true := h
          simp only [Bool.and_eq_true] at h
          rw [List.length_cons, List.length_cons, ih h.2]
    exact key hok.1.1.1
  have hz : (T.xx.xs.zip T.xl)[i]? = some (x, st) := List.getElem?_zip_eq_some.mpr ⟨hxi, hst⟩
  obtain ⟨fd, F⟩ := c.d.def_ ((T.fns.zip T.dl).length + i) (d := dfX (x, st)) (by
    unfold Txt.df
    rw [List.getElem?_append_right (by rw [List.length_map]; omega), List.length_map, Nat.add_sub_cancel_left, List.getElem?_map, hz]; rfl)
  have F : FunD K "__init__" (x.c ++ ".__init__") (defArgs st) (defBody st) (defScope st) [] [] (He.ma K (He.ga K x.c) "__init__") fd := F
  have fm : ∀ g, g ∈ faX x → g.ok K = true := fun g hg => Txt.fact c.d (by
    unfold Txt.fa
    exact List.mem_append_right _ (List.mem_append_right _ (List.mem_append_right _ (List.mem_append_left _ (List.mem_flatMap.mpr ⟨x, hm, hg⟩)))))
  have hB := c.xc hm
  unfold xcB at hB
  obtain ⟨b1, hB⟩ := Bool.and_eq_true_iff.mp hB
  obtain ⟨b2, hB⟩ := Bool.and_eq_true_iff.mp hB
  obtain ⟨b3, hB⟩ := Bool.and_eq_true_iff.mp hB
  obtain ⟨b4, hB⟩ := Bool.and_eq_true_iff.mp hB
  obtain ⟨b5, hB⟩ := Bool.and_eq_true_iff.mp hB
  obtain ⟨b6, hB⟩ := Bool.and_eq_true_iff.mp hB
  obtain ⟨b7, b8⟩ := Bool.and_eq_true_iff.mp hB
  have xf := xfB_ok b6
  have ec : ExcC K (He.ga K x.c) := by
    unfold ecB at b7
    obtain ⟨c1, b7⟩ := Bool.and_eq_true_iff.mp b7
    obtain ⟨c2, b7⟩ := Bool.and_eq_true_iff.mp b7
    obtain ⟨c3, c4⟩ := Bool.and_eq_true_iff.mp b7
    exact ⟨xf.ga, xf.gg, xf.exC, xf.hdC, He.eqO_ok c1, He.eqO_ok c2, of_decide_eq_true c3, of_decide_eq_true c4⟩
  obtain ⟨m1, m2⟩ := Bool.and_eq_true_iff.mp (fm (.meth x.c "__init__") (by unfold faX; simp))
  obtain ⟨m2, m3⟩ := Bool.and_eq_true_iff.mp m2
  obtain ⟨nm, qn, N, bs, bm, sn, sub, ab, col, dd, k0, k1, k2, k3, k5, hC, hbm⟩ := xkB_ok b1
  have XK : XcK K (He.ga K x.c) (initX x.k) := ⟨⟨baseX x.k, newX x.k, bmX x.k, nm, qn, N, bs, bm, sn, sub, ab, col, dd, k0, k1, k2, k3, k5, xbX x.k, hC, hbm⟩, He.eqO_ok b2, xf.exC, of_decide_eq_true b3, b4⟩
  have fb := fm (if x.k = 0 then .glo x.b else .free x.b) (by unfold faX; simp)
  have IK : InitK K mg x.b (initX x.k) := by
    refine ⟨h1.2, ?_, ?_⟩
    · unfold initX
      split <;> decide +kernel
    · by_cases hk : x.k = 0
      · rw [if_pos hk] at b5 fb
        obtain ⟨d1, b5⟩ := Bool.and_eq_true_iff.mp b5
        obtain ⟨d2, d3⟩ := Bool.and_eq_true_iff.mp b5
        exact .inl ⟨He.ga K x.b, .type "type", He.glo_ok hK hG fb, d1, He.eqO_ok d2, isInit_ok d3⟩
      · rw [if_neg hk] at b5 fb
        obtain ⟨d1, b5⟩ := Bool.and_eq_true_iff.mp b5
        obtain ⟨d2, d3⟩ := Bool.and_eq_true_iff.mp b5
        obtain ⟨z1, z2, z3⟩ := bltT_ok d1
        have d2 := beq_iff_eq.mp d2
        refine .inr ⟨baseX x.k, He.free_ok hK hG fb, z2, by rw [← d2]; exact z3, ?_, ?_, isInit_ok d3⟩
        · unfold baseX
          split <;> exact PySem.W.kitMeta_of (by decide +kernel)
        · unfold baseX
          split <;> decide +kernel
  have fn1 : PySem.W.typeIn K (.ref (He.ma K (He.ga K x.c) "__init__")) = some (.type "function") := beq_iff_eq.mp m2
  refine ⟨⟨initX x.k, _, fd, _, _, _, _, XK, IK, He.eqO_ok m1, fn1, F, fnScB_ok h1.1.1, h1.1.2, F.bindsN fun kV doc pm an cdv ct us hlen => ?_, fun s u v => ?_⟩, He.glo_ok hK hG (fm _ (by unfold faX; simp)), He.eqO_ok (fm (.noat x.c x.f) (by unfold faX; simp)), ⟨xf, ec⟩⟩
  · match us, hlen with
    | [u, v], _ => exact (hx.get hxi hst kV doc pm an cdv ct u v).1
  · obtain ⟨oc, od, dV, kV, doc, pmv, an, cdv, ct, osl, rfl, lk, hcd, hD, _⟩ := F.ex
    rcases hD with ⟨_, rfl⟩ | ⟨z, _⟩
    · exact .of_eq (hx.get hxi hst kV doc pmv an cdv ct u v).2
    · exact absurd rfl z
theorem Txt.xci (hok : T.ok = true) (hK : K.In h) (hG : h.Ns mainGlobals mg) (c : SaysE T.xx T.mks T.fa T.df T.tabs w K) : ∀ x ∈ T.xx.xs, ∀ t ∈ T.xx.ts, KitN K mg t (He.ga K x.c) (x.sup.contains t) := by
  intro x hm t ht
  have hB := c.xc hm
  unfold xcB at hB
  obtain ⟨_, hB⟩ := Bool.and_eq_true_iff.mp hB
  obtain ⟨_, hB⟩ := Bool.and_eq_true_iff.mp hB
  obtain ⟨_, hB⟩ := Bool.and_eq_true_iff.mp hB
  obtain ⟨_, hB⟩ := Bool.and_eq_true_iff.mp hB
  obtain ⟨_, hB⟩ := Bool.and_eq_true_iff.mp hB
  obtain ⟨_, hB⟩ := Bool.and_eq_true_iff.mp hB
  obtain ⟨_, b8⟩ := Bool.and_eq_true_iff.mp hB
  have q := of_decide_eq_true (List.all_eq_true.mp b8 t ht)
  unfold Txt.ok at hok
  simp only [Bool.and_eq_true, List.all_eq_true, Bool.not_eq_true'] at hok
  have f := Txt.fact c.d (f := faT t) (by
    unfold Txt.fa
    exact List.mem_append_right _ (List.mem_append_right _ (List.mem_append_right _ (List.mem_append_right _ (List.mem_map.mpr ⟨t, ht, rfl⟩)))))
  unfold faT at f
  refine ⟨hok.2 t ht, ?_⟩
  by_cases z : bltT t = true
  · rw [if_pos z] at q f
    obtain ⟨z1, z2, z3⟩ := bltT_ok z
    exact .inr ⟨_, He.free_ok hK hG f, z2, z3, q⟩
  · rw [if_neg z] at q f
    exact .inl ⟨_, He.glo_ok hK hG f, q⟩
end
section
variable {T : Txt}
/-- the law of a text, at its head -/
theorem Txt.walk {l : PySem.W.OpenLaw} {n k Wf fl : Nat} {q : Program} {loose : List Str} {XP : (Str → Option Value) → Heap → Prop} {d : DefRec} {x : Str} {fn : Fn} {YP : World → Heap → Prop} (hok : T.ok = true) (hb : BindL T.fns T.dl) (hk : KwL T.fns T.dl T.kw) (hx : BindX T.xx.xs T.xl) (hf : T.fns[fl]? = some fn) (hcl : fn.cls = none)
    (hY : ∀ w h, YP w h → ∃ K : PySem.W.Frag, K.In h ∧ SaysE T.xx T.mks T.fa T.df T.tabs w K ∧ SaysH T.mks K h) (hname : d.name = fn.name) (hn : l.most = some n) (hn2 : n ≤ sizeLine) (hdf : d.params.defaults = []) (hr : Room (k + 2) callerA) (hps : fn.ps = [x]) (hms : fn.modes = [false])
    (plain : ∀ ns : List Int, ns.length ≤ n → callF T.fns Wf k fl [.lst (ns.map .int)] = .ret (.fz (.bl true)) []) : PySem.W.WalkO q loose XP YP l.row.toRowW d [] (fun f vs => PySem.call f vs) := by
  refine walkG (G := ⟨()⟩) hn hn2 hdf hr hps hms (fun w mg fa h Y hG hmg => ?_) plain
  obtain ⟨K, KX, c, hsm, htb⟩ := hY w h Y
  letI : Tb := ⟨T.mks.map fun nm => (tblAt K nm, nm ++ ".<locals>.<lambda>")⟩
  have D := Txt.defs (G := ⟨()⟩) (P := l.prog) (w := w) hok hb hk KX hG c.d
  obtain ⟨fd, d0⟩ := D fl fn hf
  have e : fa = He.fAd K (atF fn fn.name) := by
    rw [hname, d0.mg hcl] at hmg
    cases hmg
    rfl
  subst e
  refine ⟨K, fd, T.mks.map fun nm => (tblAt K nm, nm ++ ".<locals>.<lambda>"), T.mks.map fun nm => (codeAt K nm, tblAt K nm), KX, fun s u hs => ?_, hsm, c.mk.1, fun p hp => ?_, fun p hp => ?_, fun p hp => ?_, fun t ht => ?_, fun base hKb hGb hTB => fnG_all (fun f fn hf => let ⟨fd, d⟩ := D f fn hf; ⟨_, fd, d⟩) (Txt.cst hok KX hG c) (Txt.free KX hG c.d) (Txt.xcd hok hx KX hG c) (Txt.xci hok KX hG c) k fl fn _ fd hf d0⟩
  · have b := d0.bind s [u] hs (by rw [hps]; rfl)
    have e : fn.ps.zip ([u] ++ []) = [(x, u)] := by rw [hps]; rfl
    rw [e] at b
    exact b
  · obtain ⟨nm, hm, rfl⟩ := List.mem_map.mp hp
    exact htb nm hm
  · obtain ⟨nm, hm, rfl⟩ := List.mem_map.mp hp
    exact (codeB_ok KX (c.mk.2 nm hm)).2
  · obtain ⟨nm, hm, rfl⟩ := List.mem_map.mp hp
    exact (codeB_ok KX (c.mk.2 nm hm)).1
  · obtain ⟨nm, hm, rfl⟩ := List.mem_map.mp ht
    exact ⟨_, List.mem_map.mpr ⟨nm, hm, rfl⟩, rfl⟩
end
end PB

/-! LT01 -/
/-! the text of the law, printed by pr.py -/
namespace Law
open PySem PB
def top (i : Nat) : Stmt := PySem.Challenge.pw_setbooks_k01_errors_made.main.body.getD i (.Pass ⟨0, 0, 0, 0⟩)
def mth (i : Nat) (m : Str) : Stmt := match top i with
  | .ClassDef _ _ _ body _ _ _ _ _ _ _ => (body.find? fun st => match st with
    | .FunctionDef n _ _ _ _ _ _ _ _ _ => decide (n = m)
    | _ => false).getD (.Pass ⟨0, 0, 0, 0⟩)
  | _ => .Pass ⟨0, 0, 0, 0⟩
def f0 : PB.Fn where
  name := "_law_begin"
  ps := ["_law_script"]
  ns := ["_law_script"]
  modes := [false]
  body :=
  [
    .ret (some (.dct ["cells", "at", "left", "used"] [.bin .Add (.var 0) (.lst [.lit (.int 0)]), .lit (.int 0), .lit (.int 0), .lit (.int 0)]))]
def f1 : PB.Fn where
  name := "_law_next"
  ps := ["_law_draw", "_law_total"]
  ns := ["_law_draw", "_law_total", "_law_cell", "_law_cells", "_law_figure", "_law_k"]
  modes := [true, false]
  body :=
  [
    .ite (.cmp .Gt (.idx (.var 0) (.lit (.str "left"))) (.lit (.int 0)))
      [
        .asg (.tp [.nm 2, .sub 0 (.lit (.str "left"))]) (.tup [.idx (.var 0) (.lit (.str "left")), .bin .FloorDiv (.idx (.var 0) (.lit (.str "left"))) (.var 1)]),
        .ret (some (.bin .Mod (.var 2) (.var 1)))]
      [],
    .asg (.nm 3) (.idx (.var 0) (.lit (.str "cells"))),
    .asg (.nm 2) (.idx (.var 3) (.bin .Mod (.idx (.var 0) (.lit (.str "at"))) (.blt .len [.var 3]))),
    .asg (.sub 0 (.lit (.str "at"))) (.bin .Add (.idx (.var 0) (.lit (.str "at"))) (.lit (.int 1))),
    .ite (.and (.cmp .GtE (.var 2) (.bin .Pow (.lit (.int 10)) (.lit (.int 18)))) (.cmp .LtE (.idx (.var 0) (.lit (.str "at"))) (.blt .len [.var 3])))
      [
        .asg (.sub 0 (.lit (.str "left"))) (.bin .FloorDiv (.var 2) (.var 1)),
        .ret (some (.bin .Mod (.var 2) (.var 1)))]
      [],
    .asg (.sub 0 (.lit (.str "used"))) (.bin .Add (.idx (.var 0) (.lit (.str "used"))) (.lit (.int 1))),
    .asg (.nm 4) (.bin .Add (.bin .Mod (.var 2) (.lit (.int 1000000007))) (.bin .Mult (.bin .Mult (.lit (.int 7919)) (.idx (.var 0) (.lit (.str "used")))) (.idx (.var 0) (.lit (.str "used"))))),
    .for (.nm 5) (.seq (.tup [.idx (.var 0) (.lit (.str "at")), .idx (.var 0) (.lit (.str "used"))]))
      [
        .asg (.nm 4) (.bin .Mod (.bin .Mult (.bin .Add (.bin .Add (.var 4) (.bin .Mult (.lit (.int 31)) (.var 5))) (.lit (.int 7))) (.lit (.int 48271))) (.lit (.int 2147483647))),
        .asg (.nm 4) (.bin .Mod (.bin .Mult (.var 4) (.bin .Add (.lit (.int 69621)) (.bin .Mult (.lit (.int 2)) (.bin .Mod (.var 5) (.lit (.int 1000)))))) (.lit (.int 2147483629)))],
    .ret (some (.bin .Mod (.bin .FloorDiv (.var 4) (.lit (.int 7))) (.var 1)))]
def f2 : PB.Fn where
  name := "_law_pick"
  ps := ["_law_draw", "_law_some"]
  ns := ["_law_draw", "_law_some"]
  modes := [true, false]
  body :=
  [
    .ret (some (.idx (.var 1) (.call 1 [.var 0, .blt .len [.var 1]])))]
def f3 : PB.Fn where
  name := "_law_all"
  ps := ["_law_odd"]
  ns := ["_law_odd", "_law_found"]
  modes := [false]
  body :=
  [
    .asg (.nm 1) (.lst [.newX "BadWorld" "given" (.var 0), .newX "BadStart" "given" (.var 0), .newX "BadBound" "given" (.var 0), .newX "BadStand" "given" (.var 0), .newX "BadRound" "given" (.var 0), .newX "BadRanges" "given" (.var 0)]),
    .asg (.nm 1) (.bin .Add (.var 1) (.lst [.newX "BadNumber" "given" (.var 0), .newX "BadRule" "mode" (.var 0), .newX "BadRun" "number" (.var 0)])),
    .asg (.nm 1) (.bin .Add (.var 1) (.lst [.newX "BadPaper" "part" (.var 0), .newX "BadRow" "number" (.var 0), .newX "BadText" "line" (.var 0)])),
    .ret (some (.bin .Add (.var 1) (.lst [.newX "TooGreat" "most" (.var 0), .newX "NothingLeft" "many" (.var 0)])))]
def f4 : PB.Fn where
  name := "_law_named"
  ps := ["_law_odd"]
  ns := ["_law_odd", "_law_found"]
  modes := [false]
  body :=
  [
    .asg (.nm 1) (.lst [.newX "BadWorld" "given" (.var 0), .newX "BadStart" "given" (.var 0), .newX "BadBound" "given" (.var 0), .newX "BadStand" "given" (.var 0)]),
    .asg (.nm 1) (.bin .Add (.var 1) (.lst [.newX "BadRound" "given" (.var 0), .newX "BadRanges" "given" (.var 0), .newX "BadNumber" "given" (.var 0), .newX "BadRule" "mode" (.var 0)])),
    .asg (.nm 1) (.bin .Add (.var 1) (.lst [.newX "BadRun" "number" (.var 0), .newX "BadPaper" "part" (.var 0), .newX "BadRow" "number" (.var 0), .newX "BadText" "line" (.var 0)])),
    .ret (some (.bin .Add (.var 1) (.lst [.newX "TooGreat" "most" (.var 0), .newX "NothingLeft" "many" (.var 0)])))]
def f5 : PB.Fn where
  name := "_law_fields"
  ps := ["_law_some"]
  ns := ["_law_some", "_law_found", "_law_error"]
  modes := [false]
  body :=
  [
    .asg (.nm 1) (.bin .Add (.comp (.att (.var 2) "given") (.nm 2) (.seq (.slc (.var 0) none (some (.lit (.int 7))))) none) (.lst [.att (.idx (.var 0) (.lit (.int 7))) "mode", .att (.idx (.var 0) (.lit (.int 8))) "number", .att (.idx (.var 0) (.lit (.int 9))) "part", .att (.idx (.var 0) (.lit (.int 10))) "number"])),
    .ret (some (.bin .Add (.var 1) (.lst [.att (.idx (.var 0) (.lit (.int 11))) "line", .att (.idx (.var 0) (.lit (.int 12))) "most", .att (.idx (.var 0) (.lit (.int 13))) "many"])))]
def f6 : PB.Fn where
  name := "_law_kinds"
  ps := ["_law_e"]
  ns := ["_law_e", "_law_some", "_law_k"]
  modes := [false]
  body :=
  [
    .asg (.nm 1) (.lst [.isx (.var 0) "BadWorld" ["BadWorld"] ["BadRule", "BadStart", "BadBound", "BadStand", "BadRound", "BadRun", "BadRanges", "BadPaper", "BadRow", "BadText", "BadNumber", "TooGreat", "NothingLeft"], .isx (.var 0) "BadStart" ["BadStart"] ["BadWorld", "BadRule", "BadBound", "BadStand", "BadRound", "BadRun", "BadRanges", "BadPaper", "BadRow", "BadText", "BadNumber", "TooGreat", "NothingLeft"]]),
    .asg (.nm 1) (.bin .Add (.var 1) (.lst [.isx (.var 0) "BadBound" ["BadBound"] ["BadWorld", "BadRule", "BadStart", "BadStand", "BadRound", "BadRun", "BadRanges", "BadPaper", "BadRow", "BadText", "BadNumber", "TooGreat", "NothingLeft"], .isx (.var 0) "BadStand" ["BadStand"] ["BadWorld", "BadRule", "BadStart", "BadBound", "BadRound", "BadRun", "BadRanges", "BadPaper", "BadRow", "BadText", "BadNumber", "TooGreat", "NothingLeft"]])),
    .asg (.nm 1) (.bin .Add (.var 1) (.lst [.isx (.var 0) "BadRound" ["BadRound"] ["BadWorld", "BadRule", "BadStart", "BadBound", "BadStand", "BadRun", "BadRanges", "BadPaper", "BadRow", "BadText", "BadNumber", "TooGreat", "NothingLeft"], .isx (.var 0) "BadRanges" ["BadRanges"] ["BadWorld", "BadRule", "BadStart", "BadBound", "BadStand", "BadRound", "BadRun", "BadPaper", "BadRow", "BadText", "BadNumber", "TooGreat", "NothingLeft"]])),
    .asg (.nm 1) (.bin .Add (.var 1) (.lst [.isx (.var 0) "BadNumber" ["BadNumber"] ["BadWorld", "BadRule", "BadStart", "BadBound", "BadStand", "BadRound", "BadRun", "BadRanges", "BadPaper", "BadRow", "BadText", "TooGreat", "NothingLeft"], .isx (.var 0) "BadRule" ["BadRule"] ["BadWorld", "BadStart", "BadBound", "BadStand", "BadRound", "BadRun", "BadRanges", "BadPaper", "BadRow", "BadText", "BadNumber", "TooGreat", "NothingLeft"]])),
    .asg (.nm 1) (.bin .Add (.var 1) (.lst [.isx (.var 0) "BadRun" ["BadRun"] ["BadWorld", "BadRule", "BadStart", "BadBound", "BadStand", "BadRound", "BadRanges", "BadPaper", "BadRow", "BadText", "BadNumber", "TooGreat", "NothingLeft"], .isx (.var 0) "BadPaper" ["BadPaper"] ["BadWorld", "BadRule", "BadStart", "BadBound", "BadStand", "BadRound", "BadRun", "BadRanges", "BadRow", "BadText", "BadNumber", "TooGreat", "NothingLeft"]])),
    .asg (.nm 1) (.bin .Add (.var 1) (.lst [.isx (.var 0) "BadRow" ["BadRow"] ["BadWorld", "BadRule", "BadStart", "BadBound", "BadStand", "BadRound", "BadRun", "BadRanges", "BadPaper", "BadText", "BadNumber", "TooGreat", "NothingLeft"], .isx (.var 0) "BadText" ["BadText"] ["BadWorld", "BadRule", "BadStart", "BadBound", "BadStand", "BadRound", "BadRun", "BadRanges", "BadPaper", "BadRow", "BadNumber", "TooGreat", "NothingLeft"]])),
    .asg (.nm 1) (.bin .Add (.var 1) (.lst [.isx (.var 0) "TooGreat" ["TooGreat"] ["BadWorld", "BadRule", "BadStart", "BadBound", "BadStand", "BadRound", "BadRun", "BadRanges", "BadPaper", "BadRow", "BadText", "BadNumber", "NothingLeft"], .isx (.var 0) "NothingLeft" ["NothingLeft"] ["BadWorld", "BadRule", "BadStart", "BadBound", "BadStand", "BadRound", "BadRun", "BadRanges", "BadPaper", "BadRow", "BadText", "BadNumber", "TooGreat"]])),
    .ret (some (.comp (.var 2) (.nm 2) (.rng1 (.lit (.int 14))) (some (.idx (.var 1) (.var 2)))))]
def f7 : PB.Fn where
  name := "law"
  ps := ["_law_script"]
  ns := ["_law_script", "_law_draw", "_law_turn", "_law_odd", "_law_errors", "_law_k", "_law_error", "_law_told"]
  modes := [false]
  body :=
  [
    .asg (.nm 1) (.call 0 [.var 0]),
    .for (.nm 2) (.rng1 (.lit (.int 3)))
      [
        .asg (.nm 3) (.call 2 [.var 1, .lst [.lit .non, .lit (.int 5), .lit (.bl true), .lit (.str "a"), .tup [.lit (.int 1), .lit (.int 2)], .lst [], .dct [] [], .tup [.lit (.str "x"), .lst [.lit .non]], .neg (.lit (.int 1)), .bin .Pow (.lit (.int 10)) (.lit (.int 30))]]),
        .for (.nm 4) (.seq (.tup [.call 3 [.var 3], .call 4 [.var 3]]))
          [
            .ite (.cmp .NotEq (.blt .repr [.call 5 [.var 4]]) (.blt .repr [.lrep [.var 3] (.lit (.int 14))]))
              [
                .ret (some (.lit (.bl false)))]
              [],
            .for (.nm 5) (.rng1 (.lit (.int 14)))
              [
                .asg (.nm 6) (.idx (.var 4) (.var 5)),
                .asg (.nm 7) (.lst [.isx (.var 6) "SetError" ["BadWorld", "BadRule", "BadStart", "BadBound", "BadStand", "BadRound", "BadRun", "BadRanges", "BadPaper", "BadRow", "BadText", "BadNumber"] ["TooGreat", "NothingLeft"], .isx (.var 6) "ValueError" ["BadWorld", "BadRule", "BadStart", "BadBound", "BadStand", "BadRound", "BadRun", "BadRanges", "BadPaper", "BadRow", "BadText", "BadNumber"] ["TooGreat", "NothingLeft"]]),
                .asg (.nm 7) (.bin .Add (.var 7) (.lst [.isx (.var 6) "OverflowError" ["TooGreat"] ["BadWorld", "BadRule", "BadStart", "BadBound", "BadStand", "BadRound", "BadRun", "BadRanges", "BadPaper", "BadRow", "BadText", "BadNumber", "NothingLeft"], .isx (.var 6) "RuntimeError" ["NothingLeft"] ["BadWorld", "BadRule", "BadStart", "BadBound", "BadStand", "BadRound", "BadRun", "BadRanges", "BadPaper", "BadRow", "BadText", "BadNumber", "TooGreat"]])),
                .ite (.or (.cmp .NotEq (.call 6 [.var 6]) (.lst [.var 5])) (.cmp .NotEq (.var 7) (.lst [.cmp .Lt (.var 5) (.lit (.int 12)), .cmp .Lt (.var 5) (.lit (.int 12)), .cmp .Eq (.var 5) (.lit (.int 12)), .cmp .Eq (.var 5) (.lit (.int 13))])))
                  [
                    .ret (some (.lit (.bl false)))]
                  []]]],
    .ret (some (.lit (.bl true)))]
def fns : List PB.Fn := [f0, f1, f2, f3, f4, f5, f6, f7]
def dl : List (Str × Stmt) := [(("_law_begin" : Str), top 17), (("_law_next" : Str), top 18), (("_law_pick" : Str), top 19), (("_law_all" : Str), top 20), (("_law_named" : Str), top 21), (("_law_fields" : Str), top 22), (("_law_kinds" : Str), top 23), (("law" : Str), top 24)]
def cs : List (Str × PB.D) := []
def fr : List Str := ["isinstance", "len", "range", "repr"]
def kw : List (Nat × List Str × List Nat) := []
def xs : List PB.Xc := [⟨"BadWorld", "SetError", "given", "self", "given", ["BadWorld", "SetError", "ValueError"], 0⟩, ⟨"BadRule", "SetError", "mode", "self", "mode", ["BadRule", "SetError", "ValueError"], 0⟩, ⟨"BadStart", "SetError", "given", "self", "given", ["BadStart", "SetError", "ValueError"], 0⟩, ⟨"BadBound", "SetError", "given", "self", "given", ["BadBound", "SetError", "ValueError"], 0⟩, ⟨"BadStand", "SetError", "given", "self", "given", ["BadStand", "SetError", "ValueError"], 0⟩, ⟨"BadRound", "SetError", "given", "self", "given", ["BadRound", "SetError", "ValueError"], 0⟩, ⟨"BadRun", "SetError", "number", "self", "number", ["BadRun", "SetError", "ValueError"], 0⟩, ⟨"BadRanges", "SetError", "given", "self", "given", ["BadRanges", "SetError", "ValueError"], 0⟩, ⟨"BadPaper", "SetError", "part", "self", "part", ["BadPaper", "SetError", "ValueError"], 0⟩, ⟨"BadRow", "SetError", "number", "self", "number", ["BadRow", "SetError", "ValueError"], 0⟩, ⟨"BadText", "SetError", "line", "self", "line", ["BadText", "SetError", "ValueError"], 0⟩, ⟨"BadNumber", "SetError", "given", "self", "given", ["BadNumber", "SetError", "ValueError"], 0⟩, ⟨"TooGreat", "OverflowError", "most", "self", "most", ["TooGreat", "OverflowError"], 1⟩, ⟨"NothingLeft", "RuntimeError", "many", "self", "many", ["NothingLeft", "RuntimeError"], 2⟩]
def ts : List Str := ["BadWorld", "BadStart", "BadBound", "BadStand", "BadRound", "BadRanges", "BadNumber", "BadRule", "BadRun", "BadPaper", "BadRow", "BadText", "TooGreat", "NothingLeft", "SetError", "ValueError", "OverflowError", "RuntimeError"]
def xl : List Stmt := [mth 2 "__init__", mth 3 "__init__", mth 4 "__init__", mth 5 "__init__", mth 6 "__init__", mth 7 "__init__", mth 8 "__init__", mth 9 "__init__", mth 10 "__init__", mth 11 "__init__", mth 12 "__init__", mth 13 "__init__", mth 14 "__init__", mth 15 "__init__"]
def mks : List Str := []
def txt : Txt := ⟨fns, dl, 40, cs, fr, kw, ⟨xs, ts⟩, xl, mks⟩
end Law
namespace Law
open PySem PB
theorem txt_ok : txt.ok = true := by decide +kernel
end Law

/-! PBt -/
/-! PB, part T: the evaluator by simp. -/
namespace PB
open PySem
/-- no tables here -/
instance tb0 : Tb := ⟨[]⟩
/-- a slot that can be bound anew -/
def Slot.nr : Slot → Bool
  | .ref _ => false
  | _ => true
def nrO : Option Slot → Bool
  | some s => s.nr
  | none => false
section
variable {C : Callee} {fns : List Fn} {W : Nat} {env : Env} {A B : Type}
@[simp] theorem bind_ok {a : A} {f : A → Env → Res B} : (Res.ok a env).bind f = f a env := rfl
@[simp] theorem bind_exc {x : D} {f : A → Env → Res B} : (Res.exc x env).bind f = .exc x env := rfl
@[simp] theorem bind_err {f : A → Env → Res B} : (Res.err).bind f = .err := rfl
@[simp] theorem ev_var (i : Nat) : evE C fns (.var i) env = (match env[i]? with
    | some (.val d) => .ok (.fz d) env
    | some (.own _) => .ok (.bw i) env
    | some (.ref _) => .ok (.bw i) env
    | _ => .err) := by first | (rw [evE]; done) | (rw [evE]; rfl)
@[simp] theorem ev_lit (d : D) : evE C fns (.lit d) env = .ok (.fz d) env := by first | (rw [evE]; done) | (rw [evE]; rfl)
@[simp] theorem ev_bin (op : Operator) (a b : E) : evE C fns (.bin op a b) env = (evE C fns a env).bind fun x env => (evE C fns b env).bind fun y env => binV op x y env := by first | (rw [evE]; done) | (rw [evE]; rfl)
@[simp] theorem ev_neg (a : E) : evE C fns (.neg a) env = (evE C fns a env).bind fun x env => negV x env := by first | (rw [evE]; done) | (rw [evE]; rfl)
@[simp] theorem ev_not (a : E) : evE C fns (.not a) env = (evE C fns a env).bind fun x env => (boolV x env).bind fun b env => .ok (.fz (.bl (!b))) env := by first | (rw [evE]; done) | (rw [evE]; rfl)
@[simp] theorem ev_cmp (op : CmpOp) (a b : E) : evE C fns (.cmp op a b) env = (evE C fns a env).bind fun x env => (evE C fns b env).bind fun y env => (cmpV op x y env).bind fun b env => .ok (.fz (.bl b)) env := by first | (rw [evE]; done) | (rw [evE]; rfl)
@[simp] theorem ev_chn (op op' : CmpOp) (a b c : E) : evE C fns (.chn op op' a b c) env = (evE C fns a env).bind fun x env => (evE C fns b env).bind fun y env => (cmpV op x y env).bind fun k env =>
    if k = true then (evE C fns c env).bind fun z env => (cmpV op' y z env).bind fun b env => .ok (.fz (.bl b)) env else .ok (.fz (.bl false)) env := by first | (rw [evE]; done) | (rw [evE]; rfl)
@[simp] theorem ev_and (a b : E) : evE C fns (.and a b) env = (evE C fns a env).bind fun x env => (boolV x env).bind fun k env => if k = true then evE C fns b env else .ok (.fz (.bl false)) env := by first | (rw [evE]; done) | (rw [evE]; rfl)
@[simp] theorem ev_or (a b : E) : evE C fns (.or a b) env = (evE C fns a env).bind fun x env => (boolV x env).bind fun k env => if k = true then .ok (.fz (.bl true)) env else evE C fns b env := by first | (rw [evE]; done) | (rw [evE]; rfl)
@[simp] theorem ev_ite (c a b : E) : evE C fns (.ite c a b) env = (evE C fns c env).bind fun x env => (boolV x env).bind fun k env => if k = true then evE C fns a env else evE C fns b env := by first | (rw [evE]; done) | (rw [evE]; rfl)
@[simp] theorem ev_tup (es : List E) : evE C fns (.tup es) env = (evEs C fns es env).bind fun xs env => tupV xs env := by first | (rw [evE]; done) | (rw [evE]; rfl)
@[simp] theorem ev_lst (es : List E) : evE C fns (.lst es) env = (evEs C fns es env).bind fun xs env => lstV xs env := by first | (rw [evE]; done) | (rw [evE]; rfl)
@[simp] theorem ev_dct (ks : List Str) (es : List E) : evE C fns (.dct ks es) env = (evEs C fns es env).bind fun xs env => dctV ks xs env := by first | (rw [evE]; done) | (rw [evE]; rfl)
@[simp] theorem ev_idx (a i : E) : evE C fns (.idx a i) env = (evE C fns a env).bind fun x env => (evE C fns i env).bind fun y env => idxV x y env := by first | (rw [evE]; done) | (rw [evE]; rfl)
@[simp] theorem ev_slc (a : E) (lo hi : Option E) : evE C fns (.slc a lo hi) env = (evE C fns a env).bind fun x env => (evP C fns lo env).bind fun l env => (evP C fns hi env).bind fun h env => slcV x l h env := by first | (rw [evE]; done) | (rw [evE]; rfl)
@[simp] theorem ev_blt (b : Blt) (es : List E) : evE C fns (.blt b es) env = (evEs C fns es env).bind fun xs env => bltV b xs env := by first | (rw [evE]; done) | (rw [evE]; rfl)
@[simp] theorem ev_call (f : Nat) (es : List E) : evE C fns (.call f es) env = (evEs C fns es env).bind fun xs env => callV C fns f xs env := by first | (rw [evE]; done) | (rw [evE]; rfl)
@[simp] theorem ev_callK (f : Nat) (es : List E) (pm : List Nat) : evE C fns (.callK f es pm) env = (evEs C fns es env).bind fun xs env => callKV C fns f pm xs env := by first | (rw [evE]; done) | (rw [evE]; rfl)
@[simp] theorem ev_comp (elt : E) (t : Tg) (it : It) (c : Option E) : evE C fns (.comp elt t it c) env = (evIt C fns it env).bind fun ds env => match compL (fun d e => asT C fns t d (clear e t.slots)) (evC C fns c) (evE C fns elt) ds [] env with
    | .ok acc env' => .ok (.fr (.lst acc)) (restore env env' t.slots)
    | _ => .err := by first | (rw [evE]; done) | (rw [evE]; rfl)
@[simp] theorem evC_none : evC C fns none env = .ok true env := by first | (rw [evC]; done) | (rw [evC]; rfl)
@[simp] theorem evC_some (e : E) : evC C fns (some e) env = (evE C fns e env).bind fun x env => boolV x env := by first | (rw [evC]; done) | (rw [evC]; rfl)
@[simp] theorem evP_none : evP C fns none env = .ok none env := by first | (rw [evP]; done) | (rw [evP]; rfl)
@[simp] theorem evP_some (e : E) : evP C fns (some e) env = (evE C fns e env).bind fun x env => (intV x env).bind fun i env => .ok (some i) env := by first | (rw [evP]; done) | (rw [evP]; rfl)
@[simp] theorem evEs_nil : evEs C fns [] env = .ok [] env := by first | (rw [evEs]; done) | (rw [evEs]; rfl)
@[simp] theorem evEs_cons (e : E) (es : List E) : evEs C fns (e :: es) env = (evE C fns e env).bind fun x env => (evEs C fns es env).bind fun xs env => .ok (x :: xs) env := by first | (rw [evEs]; done) | (rw [evEs]; rfl)
@[simp] theorem asT_nm (i : Nat) (d : D) : asT C fns (.nm i) d env = (match setV env i (.val d) with
    | some env => .ok () env
    | none => .err) := by first | (rw [asT]; done) | (rw [asT]; rfl)
@[simp] theorem asT_tp (ts : List Tg) (ds : List D) : asT C fns (.tp ts) (.tup ds) env = if ds.length = ts.length then asTs C fns ts ds env else .err := by first | (rw [asT]; done) | (rw [asT]; rfl)
@[simp] theorem asT_sub (i : Nat) (k : E) (d : D) : asT C fns (.sub i k) d env = (match ownD env i with
    | none => .err
    | some _ => (evE C fns k env).bind fun x env => match nowD env x, ownD env i with
      | some kd, some c => (match subPut c kd d with
        | some c => (match putOwn env i c with
          | some env => .ok () env
          | none => .err)
        | none => .err)
      | _, _ => .err) := by first | (rw [asT]; done) | (rw [asT]; rfl)
@[simp] theorem asTs_nil : asTs C fns [] [] env = .ok () env := by first | (rw [asTs]; done) | (rw [asTs]; rfl)
@[simp] theorem asTs_cons (t : Tg) (ts : List Tg) (d : D) (ds : List D) : asTs C fns (t :: ts) (d :: ds) env = (asT C fns t d env).bind fun _ env => asTs C fns ts ds env := by first | (rw [asTs]; done) | (rw [asTs]; rfl)
@[simp] theorem evIt_seq (e : E) : evIt C fns (.seq e) env = (evE C fns e env).bind fun x env => seqV x env := by first | (rw [evIt]; done) | (rw [evIt]; rfl)
@[simp] theorem evIt_rng1 (e : E) : evIt C fns (.rng1 e) env = (evE C fns e env).bind fun x env => (intV x env).bind fun h env => rngV 0 h env := by first | (rw [evIt]; done) | (rw [evIt]; rfl)
@[simp] theorem evIt_rng2 (a b : E) : evIt C fns (.rng2 a b) env = (evE C fns a env).bind fun x env => (evE C fns b env).bind fun y env => (intV x env).bind fun l env => (intV y env).bind fun h env => rngV l h env := by first | (rw [evIt]; done) | (rw [evIt]; rfl)
@[simp] theorem evIt_enm (e : E) : evIt C fns (.enm e) env = (evE C fns e env).bind fun x env => (seqV x env).bind fun ds env => .ok (enumD 0 ds) env := by first | (rw [evIt]; done) | (rw [evIt]; rfl)
@[simp] theorem evIt_zip (a b : E) : evIt C fns (.zip a b) env = (evE C fns a env).bind fun x env => (evE C fns b env).bind fun y env => match takeDs [x, y] env with
    | some ([dx, dy], env) => (match dx, dy with
      | .lst l, .lst m => .ok (zipD l m) env
      | .tup l, .tup m => .ok (zipD l m) env
      | _, _ => .err)
    | _ => .err := by first | (rw [evIt]; done) | (rw [evIt]; rfl)
@[simp] theorem ex_asg (t : Tg) (e : E) : exS C fns W (.asg t e) env = (evE C fns e env).bind fun v env => (asg C fns t v env).bind fun _ env => .ok .next env := by first | (rw [exS]; done) | (rw [exS]; rfl)
@[simp] theorem ex_par (is : List Nat) (es : List E) : exS C fns W (.par is es) env = (evEs C fns es env).bind fun vs env => (par is vs env).bind fun _ env => .ok .next env := by first | (rw [exS]; done) | (rw [exS]; rfl)
@[simp] theorem ex_app (i : Nat) (e : E) : exS C fns W (.app i e) env = (match ownD env i with
    | some (.lst _) => (evE C fns e env).bind fun v env => (takeR v env).bind fun d env => (match ownD env i with
      | some (.lst l) => if l.length < sizeLine then (match putOwn env i (.lst (l ++ [d])) with
        | some env => .ok .next env
        | none => .err) else .err
      | _ => .err)
    | _ => .err) := by first | (rw [exS]; done) | (rw [exS]; rfl)
@[simp] theorem ex_ext (i : Nat) (e : E) : exS C fns W (.ext i e) env = (match ownD env i with
    | some (.lst _) => (evE C fns e env).bind fun v env => (match ownD env i, itemsV i v env with
      | some (.lst l), some m => if l.length + m.length ≤ sizeLine then (match putOwn env i (.lst (l ++ m)) with
        | some env => .ok .next env
        | none => .err) else .err
      | _, _ => .err)
    | _ => .err) := by first | (rw [exS]; done) | (rw [exS]; rfl)
@[simp] theorem ex_expr (e : E) : exS C fns W (.expr e) env = (evE C fns e env).bind fun _ env => .ok .next env := by first | (rw [exS]; done) | (rw [exS]; rfl)
@[simp] theorem ex_retN : exS C fns W (.ret none) env = .ok (.ret (.fz .non)) env := by first | (rw [exS]; done) | (rw [exS]; rfl)
@[simp] theorem ex_ret (e : E) : exS C fns W (.ret (some e)) env = (evE C fns e env).bind fun v env => .ok (.ret v) env := by first | (rw [exS]; done) | (rw [exS]; rfl)
@[simp] theorem ex_ite (c : E) (a b : List S) : exS C fns W (.ite c a b) env = (evE C fns c env).bind fun x env => (boolV x env).bind fun k env => if k = true then exSs C fns W a env else exSs C fns W b env := by first | (rw [exS]; done) | (rw [exS]; rfl)
@[simp] theorem ex_for (t : Tg) (it : It) (body : List S) : exS C fns W (.for t it body) env = (evIt C fns it env).bind fun ds env => forL (asT C fns t) (exSs C fns W body) ds env := by first | (rw [exS]; done) | (rw [exS]; rfl)
@[simp] theorem ex_whl (c : E) (body : List S) : exS C fns W (.whl c body) env = whlL (fun env => (evE C fns c env).bind fun x env => boolV x env) (exSs C fns W body) W env := by first | (rw [exS]; done) | (rw [exS]; rfl)
@[simp] theorem ex_pass : exS C fns W .pass env = .ok .next env := by first | (rw [exS]; done) | (rw [exS]; rfl)
@[simp] theorem ex_brk : exS C fns W .brk env = .ok .brk env := by first | (rw [exS]; done) | (rw [exS]; rfl)
@[simp] theorem ex_cont : exS C fns W .cont env = .ok .cont env := by first | (rw [exS]; done) | (rw [exS]; rfl)
@[simp] theorem ex_never : exS C fns W .never env = .err := by first | (rw [exS]; done) | (rw [exS]; rfl)
@[simp] theorem ex_aug (i : Nat) (op : Operator) (e : E) : exS C fns W (.aug i op e) env = (match env[i]? with
    | some (.val (.int a)) => if op = .Add ∨ op = .Sub then (evE C fns e env).bind fun v env => (match v with
      | .fz (.int b) => (match setV env i (.val (.int (if op = .Add then a + b else a - b))) with
        | some env => .ok .next env
        | none => .err)
      | _ => .err) else .err
    | _ => .err) := by first | (rw [exS]; done) | (rw [exS]; rfl)
@[simp] theorem exs_nil : exSs C fns W [] env = .ok .next env := by first | (rw [exSs]; done) | (rw [exSs]; rfl)
@[simp] theorem exs_cons (s : S) (ss : List S) : exSs C fns W (s :: ss) env = (exS C fns W s env).bind fun f env => match f with
    | .next => exSs C fns W ss env
    | f => .ok f env := by first | (rw [exSs]; done) | (rw [exSs]; rfl)
/-! ### values -/
@[simp] theorem nowD_fz {d : D} : nowD env (.fz d) = some d := rfl
@[simp] theorem nowD_fr {d : D} : nowD env (.fr d) = some d := rfl
@[simp] theorem nowD_bw {i : Nat} : nowD env (.bw i) = (match env[i]? with
  | some s => s.data
  | none => none) := rfl
@[simp] theorem data_own {d : D} : (Slot.own d).data = some d := rfl
@[simp] theorem data_ref {d : D} : (Slot.ref d).data = some d := rfl
@[simp] theorem data_val {d : D} : (Slot.val d).data = some d := rfl
@[simp] theorem nowDs_nil : nowDs env [] = some [] := rfl
@[simp] theorem nowDs_cons {v : Vd} {vs : List Vd} : nowDs env (v :: vs) = (match nowD env v, nowDs env vs with
    | some d, some ds => some (d :: ds)
    | _, _ => none) := rfl
@[simp] theorem takeD_fz {d : D} : takeD (.fz d) env = some (d, env) := rfl
@[simp] theorem takeD_fr {d : D} : takeD (.fr d) env = some (d, env) := rfl
@[simp] theorem takeD_bw {i : Nat} : takeD (.bw i) env = (match env[i]? with
    | some (.own d) => some (d, env.set i (.val d))
    | some (.val d) => some (d, env)
    | _ => none) := rfl
@[simp] theorem takeDs_nil : takeDs [] env = some ([], env) := rfl
@[simp] theorem takeDs_cons {v : Vd} {vs : List Vd} : takeDs (v :: vs) env = (match takeD v env with
    | some (d, env) => (match takeDs vs env with
      | some (ds, env) => some (d :: ds, env)
      | none => none)
    | none => none) := rfl
@[simp] theorem takeR_eq {v : Vd} : takeR v env = (match takeD v env with
  | some (a, env) => .ok a env
  | none => .err) := by unfold takeR; cases takeD v env <;> rfl
@[simp] theorem boolV_bl {b : Bool} : boolV (.fz (.bl b)) env = .ok b env := rfl
@[simp] theorem intV_int {b : Int} : intV (.fz (.int b)) env = .ok b env := rfl
@[simp] theorem negV_int {b : Int} : negV (.fz (.int b)) env = .ok (.fz (.int (-b))) env := rfl
@[simp] theorem binV_eq {op : Operator} {x y : Vd} : binV op x y env = (match nowD env x, nowD env y with
  | some a, some b => (match binD op a b with
    | some r => .ok (vdR r) env
    | none => .err)
  | _, _ => .err) := rfl
@[simp] theorem vdR_fz {d : D} : vdR (false, d) = .fz d := rfl
@[simp] theorem vdR_fr {d : D} : vdR (true, d) = .fr d := rfl
@[simp] theorem bin_add {i j : Int} : binD .Add (.int i) (.int j) = some (false, .int (i + j)) := rfl
@[simp] theorem bin_sub {i j : Int} : binD .Sub (.int i) (.int j) = some (false, .int (i - j)) := rfl
theorem bin_mul {i j : Int} (h : mulOk i j = true) : binD .Mult (.int i) (.int j) = some (false, .int (i * j)) := if_pos h
theorem bin_div {i j : Int} (h : 0 < j ∧ j < 1073741824) : binD .FloorDiv (.int i) (.int j) = some (false, .int (i / j)) := if_pos (by simp [h])
theorem bin_mod {i j : Int} (h : 0 < j) : binD .Mod (.int i) (.int j) = some (false, .int (i % j)) := if_pos (by simp [h])
@[simp] theorem bin_lst {x y : List D} : binD .Add (.lst x) (.lst y) = if x.length + y.length ≤ sizeLine then some (true, .lst (x ++ y)) else none := rfl
@[simp] theorem bin_tup {x y : List D} : binD .Add (.tup x) (.tup y) = if x.length + y.length ≤ sizeLine then some (false, .tup (x ++ y)) else none := rfl
@[simp] theorem cmpV_eq {op : CmpOp} {x y : Vd} : cmpV op x y env = (match nowD env x, nowD env y with
  | some a, some b => (match cmpD op a b with
    | some r => .ok r env
    | none => .err)
  | _, _ => .err) := rfl
@[simp] theorem cmp_lt {i j : Int} : cmpD .Lt (.int i) (.int j) = some (decide (i < j)) := rfl
@[simp] theorem cmp_le {i j : Int} : cmpD .LtE (.int i) (.int j) = some (decide (i ≤ j)) := rfl
@[simp] theorem cmp_gt {i j : Int} : cmpD .Gt (.int i) (.int j) = some (decide (j < i)) := rfl
@[simp] theorem cmp_ge {i j : Int} : cmpD .GtE (.int i) (.int j) = some (decide (j ≤ i)) := rfl
@[simp] theorem cmp_is {x : D} : cmpD .Is x .non = some (isNon x) := rfl
@[simp] theorem cmp_isnot {x : D} : cmpD .IsNot x .non = some (!isNon x) := rfl
@[simp] theorem isNon_non : isNon .non = true := rfl
@[simp] theorem isNon_int {i : Int} : isNon (.int i) = false := rfl
@[simp] theorem isNon_tup {l : List D} : isNon (.tup l) = false := rfl
@[simp] theorem isNon_lst {l : List D} : isNon (.lst l) = false := rfl
@[simp] theorem cmp_eq {x y : D} : cmpD .Eq x y = eqD x y := by cases x <;> cases y <;> rfl
@[simp] theorem cmp_ne {x y : D} : cmpD .NotEq x y = (eqD x y).map not := by cases x <;> cases y <;> rfl
@[simp] theorem cmp_in {x y : D} : cmpD .In x y = inD x y := by cases x <;> cases y <;> rfl
@[simp] theorem cmp_notin {x y : D} : cmpD .NotIn x y = (inD x y).map not := by cases x <;> cases y <;> rfl
@[simp] theorem idxV_eq {x y : Vd} : idxV x y env = (match nowD env x, nowD env y with
  | some a, some b => (match idxD a b with
    | some r => .ok (.fz r) env
    | none => .err)
  | _, _ => .err) := rfl
@[simp] theorem idx_lst {l : List D} {i : Int} : idxD (.lst l) (.int i) = L2.atI l i := rfl
@[simp] theorem idx_tup {l : List D} {i : Int} : idxD (.tup l) (.int i) = L2.atI l i := rfl
@[simp] theorem idx_dk {l : List (L2.Key × D)} {s : Str} : idxD (.dk l) (.str s) = kget l (.inr s) := rfl
@[simp] theorem bltV_eq {b : Blt} {xs : List Vd} : bltV b xs env = (match nowDs env xs with
  | some ds => (match bltD b ds with
    | some r => .ok (vdR r) env
    | none => .err)
  | none => .err) := rfl
@[simp] theorem blt_lenL {l : List D} : bltD .len [.lst l] = some (false, .int l.length) := rfl
@[simp] theorem blt_lenT {l : List D} : bltD .len [.tup l] = some (false, .int l.length) := rfl
@[simp] theorem blt_abs {i : Int} : bltD .abs [.int i] = some (false, .int (if i < 0 then -i else i)) := rfl
@[simp] theorem blt_max {i j : Int} : bltD .max2 [.int i, .int j] = some (false, .int (if j > i then j else i)) := rfl
@[simp] theorem blt_min {i j : Int} : bltD .min2 [.int i, .int j] = some (false, .int (if j < i then j else i)) := rfl
@[simp] theorem blt_sum {l : List D} : bltD .sum [.lst l] = (match intsOf l with
    | some r => some (false, .int r.sum)
    | _ => none) := rfl
@[simp] theorem blt_all {l : List D} : bltD .all [.lst l] = (match boolsOf l with
    | some r => some (false, .bl (r.all id))
    | _ => none) := rfl
@[simp] theorem blt_intI {i : Int} : bltD .int [.int i] = some (false, .int i) := rfl
@[simp] theorem blt_intB {b : Bool} : bltD .int [.bl b] = some (false, .int (if b then 1 else 0)) := rfl
@[simp] theorem blt_repr {d : D} : bltD .repr [d] = (match reprD d with
    | some s => some (false, s)
    | none => none) := by cases d <;> rfl
@[simp] theorem blt_listL {l : List D} : bltD .list [.lst l] = some (true, .lst l) := rfl
@[simp] theorem blt_listT {l : List D} : bltD .list [.tup l] = some (true, .lst l) := rfl
@[simp] theorem blt_tupL {l : List D} : bltD .tuple [.lst l] = some (false, .tup l) := rfl
@[simp] theorem blt_tupT {l : List D} : bltD .tuple [.tup l] = some (false, .tup l) := rfl
@[simp] theorem blt_isi {t : Ty} {d : D} : bltD (.isi t) [d] = if tyOk d then some (false, .bl (isTy t d)) else none := by cases d <;> cases t <;> rfl
@[simp] theorem tyOk_non : tyOk .non = true := rfl
@[simp] theorem tyOk_int {i : Int} : tyOk (.int i) = true := rfl
@[simp] theorem tyOk_str {i : Str} : tyOk (.str i) = true := rfl
@[simp] theorem tyOk_tup {i : List D} : tyOk (.tup i) = true := rfl
@[simp] theorem tyOk_lst {i : List D} : tyOk (.lst i) = true := rfl
@[simp] theorem isTy_ii {i : Int} : isTy .int (.int i) = true := rfl
@[simp] theorem isTy_bi {i : Int} : isTy .bool (.int i) = false := rfl
@[simp] theorem isTy_in : isTy .int .non = false := rfl
@[simp] theorem isTy_tt {l : List D} : isTy .tuple (.tup l) = true := rfl
@[simp] theorem isTy_ss {l : Str} : isTy .str (.str l) = true := rfl
@[simp] theorem isTy_ti {i : Int} : isTy .tuple (.int i) = false := rfl
@[simp] theorem isTy_tn : isTy .tuple .non = false := rfl
@[simp] theorem blt_lrange {i j : Int} : bltD .lrange2 [.int i, .int j] = if rngOk i && rngOk j && decide (j - i ≤ 1000000) then some (true, .lst (rangeD i (j - i).toNat)) else none := rfl
@[simp] theorem blt_sortPL {l : List D} : bltD .sortP [.lst l] = (match pairsOf l with
    | some r => some (true, .lst ((sortPL r).map fun p => .tup [.int p.1, .int p.2]))
    | _ => none) := rfl
@[simp] theorem blt_sortPT {l : List D} : bltD .sortP [.tup l] = (match pairsOf l with
    | some r => some (true, .lst ((sortPL r).map fun p => .tup [.int p.1, .int p.2]))
    | _ => none) := rfl
@[simp] theorem blt_sortSet {l : List D} : bltD .sortSet [.lst l] = (match intsOf l with
    | some r => if r.length ≤ 4000 then some (true, .lst ((uniqL r).map .int)) else none
    | _ => none) := rfl
@[simp] theorem blt_lenSet {l : List D} : bltD .lenSet [.lst l] = (match intsOf l with
    | some r => if r.length ≤ 4000 then some (false, .int (uniqL r).length) else none
    | _ => none) := rfl
@[simp] theorem tupV_eq {xs : List Vd} : tupV xs env = (match takeDs xs env with
  | some (ds, env) => if ds.length ≤ sizeLine then .ok (.fz (.tup ds)) env else .err
  | none => .err) := rfl
@[simp] theorem lstV_eq {xs : List Vd} : lstV xs env = (match takeDs xs env with
  | some (ds, env) => if ds.length ≤ sizeLine then .ok (.fr (.lst ds)) env else .err
  | none => .err) := rfl
@[simp] theorem slcV_eq {x : Vd} {lo hi : Option Int} : slcV x lo hi env = (match nowD env x with
  | some a => (match slcD a lo hi with
    | some r => .ok (vdR r) env
    | none => .err)
  | none => .err) := rfl
@[simp] theorem slc_lst {l : List D} {lo hi : Option Int} : slcD (.lst l) lo hi = some (true, .lst (cutD l lo hi)) := rfl
@[simp] theorem slc_tup {l : List D} {lo hi : Option Int} : slcD (.tup l) lo hi = some (false, .tup (cutD l lo hi)) := rfl
@[simp] theorem seqV_eq {v : Vd} : seqV v env = (match takeD v env with
  | some (d, env) => optR (seqD d) env
  | none => .err) := rfl
@[simp] theorem seqD_lst {l : List D} : seqD (.lst l) = some l := rfl
@[simp] theorem seqD_tup {l : List D} : seqD (.tup l) = some l := rfl
@[simp] theorem optR_some {a : A} : optR (some a) env = .ok a env := rfl
@[simp] theorem nrO_none : nrO none = false := rfl
@[simp] theorem nrO_some {s : Slot} : nrO (some s) = s.nr := rfl
@[simp] theorem nr_no : Slot.no.nr = true := rfl
@[simp] theorem nr_val {d : D} : (Slot.val d).nr = true := rfl
@[simp] theorem nr_own {d : D} : (Slot.own d).nr = true := rfl
@[simp] theorem nr_ref {d : D} : (Slot.ref d).nr = false := rfl
@[simp] theorem setV_eq {i : Nat} {s : Slot} : setV env i s = if nrO env[i]? = true then some (env.set i s) else none := by
  unfold setV
  cases h : env[i]? with
  | none => rfl
  | some x => cases x <;> rfl
@[simp] theorem ownD_eq {i : Nat} : ownD env i = (match env[i]? with
  | some (.own d) => some d
  | some (.ref d) => some d
  | _ => none) := rfl
@[simp] theorem putOwn_eq {i : Nat} {d : D} : putOwn env i d = (match env[i]? with
  | some (.own _) => some (env.set i (.own d))
  | some (.ref _) => some (env.set i (.ref d))
  | _ => none) := rfl
@[simp] theorem asg_nmfr {i : Nat} {d : D} : asg C fns (.nm i) (.fr d) env = (match setV env i (.own d) with
    | some env => .ok () env
    | none => .err) := rfl
@[simp] theorem asg_nmfz {i : Nat} {d : D} : asg C fns (.nm i) (.fz d) env = asT C fns (.nm i) d env := rfl
@[simp] theorem asg_nmbw {i j : Nat} : asg C fns (.nm i) (.bw j) env = (takeR (.bw j) env).bind fun d env => asT C fns (.nm i) d env := rfl
@[simp] theorem asg_tp {ts : List Tg} {v : Vd} : asg C fns (.tp ts) v env = (takeR v env).bind fun d env => asT C fns (.tp ts) d env := rfl
@[simp] theorem asg_sub' {i : Nat} {k : E} {v : Vd} : asg C fns (.sub i k) v env = (takeR v env).bind fun d env => asT C fns (.sub i k) d env := rfl
@[simp] theorem par_eq {is : List Nat} {vs : List Vd} : par is vs env = (match settle vs env with
  | some (vs, env) => (match parL is vs env with
    | some env => .ok () env
    | none => .err)
  | none => .err) := rfl
@[simp] theorem settle_nil : settle [] env = some ([], env) := rfl
@[simp] theorem settle_fz {d : D} {vs : List Vd} : settle (.fz d :: vs) env = (match settle vs env with
    | some (vs, env) => some (.fz d :: vs, env)
    | none => none) := rfl
@[simp] theorem settle_fr {d : D} {vs : List Vd} : settle (.fr d :: vs) env = (match settle vs env with
    | some (vs, env) => some (.fr d :: vs, env)
    | none => none) := rfl
@[simp] theorem settle_bw {i : Nat} {vs : List Vd} : settle (.bw i :: vs) env = (match takeD (.bw i) env with
    | some (d, env) => (match settle vs env with
      | some (vs, env) => some (.fz d :: vs, env)
      | none => none)
    | none => none) := rfl
@[simp] theorem parL_nil : parL [] [] env = some env := rfl
@[simp] theorem parL_fr {i : Nat} {is : List Nat} {d : D} {vs : List Vd} : parL (i :: is) (.fr d :: vs) env = (match setV env i (.own d) with
    | some env => parL is vs env
    | none => none) := rfl
@[simp] theorem parL_fz {i : Nat} {is : List Nat} {d : D} {vs : List Vd} : parL (i :: is) (.fz d :: vs) env = (match setV env i (.val d) with
    | some env => parL is vs env
    | none => none) := rfl
/-! ### calls -/
theorem callV_at {f : Nat} {fn : Fn} {vs : List Vd} (h : fns[f]? = some fn) : callV C fns f vs env = (match argsD fn.modes vs env with
    | none => .err
    | some (ds, is, env) => match C f ds with
      | .err => .err
      | .ret r outs => (match outsD is outs env with
        | none => .err
        | some env => (match rtV fn.modes vs r with
          | some v => .ok v env
          | none => .err))
      | .exc x outs => (match outsD is outs env with
        | none => .err
        | some env => .exc x env)) := by unfold callV; rw [h]; try rfl
@[simp] theorem callKV_eq {f : Nat} {pm : List Nat} {vs : List Vd} : callKV C fns f pm vs env = if noFr vs then (match permL vs pm with
  | some ws => callV C fns f ws env
  | none => .err) else .err := rfl
@[simp] theorem noFr_nil : noFr [] = true := rfl
@[simp] theorem noFr_fz {d : D} {vs : List Vd} : noFr (.fz d :: vs) = noFr vs := rfl
@[simp] theorem noFr_bw {d : Nat} {vs : List Vd} : noFr (.bw d :: vs) = noFr vs := rfl
@[simp] theorem permL_nil {xs : List A} : permL xs [] = some [] := rfl
@[simp] theorem permL_cons {xs : List A} {i : Nat} {is : List Nat} : permL xs (i :: is) = (match xs[i]?, permL xs is with
    | some x, some r => some (x :: r)
    | _, _ => none) := rfl
@[simp] theorem argsD_nil : argsD [] [] env = some ([], [], env) := rfl
@[simp] theorem argsD_f {ms : List Bool} {v : Vd} {vs : List Vd} : argsD (false :: ms) (v :: vs) env = (match takeD v env with
    | some (d, env) => (match argsD ms vs env with
      | some (ds, is, env) => some (d :: ds, is, env)
      | none => none)
    | none => none) := rfl
@[simp] theorem argsD_tb {ms : List Bool} {i : Nat} {vs : List Vd} : argsD (true :: ms) (.bw i :: vs) env = (match argsD ms vs env with
    | some (ds, is, env) => (match ownD env i with
      | some d => if is.contains (some i) then none else some (d :: ds, some i :: is, env)
      | none => none)
    | none => none) := rfl
@[simp] theorem outsD_nil : outsD [] [] env = some env := rfl
@[simp] theorem outsD_s {i : Nat} {is : List (Option Nat)} {d : D} {ds : List D} : outsD (some i :: is) (d :: ds) env = (match putOwn env i d with
    | some env => outsD is ds env
    | none => none) := rfl
@[simp] theorem rtV_fz {ms : List Bool} {vs : List Vd} {d : D} : rtV ms vs (.fz d) = some (.fz d) := rfl
@[simp] theorem rtV_fr {ms : List Bool} {vs : List Vd} {d : D} : rtV ms vs (.fr d) = some (.fr d) := rfl
@[simp] theorem rtV_prm {ms : List Bool} {vs : List Vd} {j : Nat} : rtV ms vs (.prm j) = (match ms[j]?, vs[j]? with
    | some true, some (.bw i) => some (.bw i)
    | _, _ => none) := rfl
theorem callF_at {k f : Nat} {fn : Fn} {ds : List D} (h : fns[f]? = some fn) : callF fns W (k + 1) f ds = if ds.length = fn.ps.length then finish fn.modes (exSs (callF fns W k) fns W fn.body (start fn.modes fn.ns.length ds)) else .err := by
  show (match fns[f]? with
    | some fn => runFn (callF fns W k) fns W fn ds
    | none => .err) = _
  rw [h]
  rfl
@[simp] theorem start_eq {ms : List Bool} {n : Nat} {ds : List D} : start ms n ds = (ms.zip ds).map (fun p => if p.1 = true then .ref p.2 else .val p.2) ++ List.replicate (n - ds.length) .no := rfl
@[simp] theorem outsOf_nil : outsOf [] env = some [] := rfl
@[simp] theorem outsOf_f {ms : List Bool} {s : Slot} : outsOf (false :: ms) (s :: env) = outsOf ms env := rfl
@[simp] theorem outsOf_t {ms : List Bool} {d : D} : outsOf (true :: ms) (.ref d :: env) = (outsOf ms env).map (d :: ·) := rfl
@[simp] theorem rtOf_fz {d : D} : rtOf env (.fz d) = some (.fz d) := rfl
@[simp] theorem rtOf_fr {d : D} : rtOf env (.fr d) = some (.fr d) := rfl
@[simp] theorem rtOf_bw {i : Nat} : rtOf env (.bw i) = (match env[i]? with
    | some (.own d) => some (.fr d)
    | some (.val d) => some (.fz d)
    | some (.ref _) => some (.prm i)
    | _ => none) := rfl
@[simp] theorem fin_next {ms : List Bool} : finish ms (.ok .next env) = (match outsOf ms env with
    | some o => .ret (.fz .non) o
    | none => .err) := rfl
@[simp] theorem fin_ret {ms : List Bool} {v : Vd} : finish ms (.ok (.ret v) env) = (match outsOf ms env, rtOf env v with
    | some o, some r => .ret r o
    | _, _ => .err) := rfl
@[simp] theorem rngV_eq {lo hi : Int} : rngV lo hi env = if rngOk lo && rngOk hi && decide (hi - lo ≤ 1000000) then .ok (rangeD lo (hi - lo).toNat) env else .err := rfl
end
end PB

/-! PCd -/
/-! PC, part D: the new parts of the evaluator by simp. -/
namespace PB
open PySem
section
variable {C : Callee} {fns : List Fn} {W : Nat} {env : Env} {A B : Type}
@[simp] theorem ev_att (a : E) (f : Str) : evE C fns (.att a f) env = (evE C fns a env).bind fun x env => attV x f env := by first | (rw [evE]; done) | (rw [evE]; rfl)
@[simp] theorem ev_meth (m : Str) (fs : List Nat) (a : E) (es : List E) : evE C fns (.meth m fs a es) env = (evE C fns a env).bind fun x env => (match methIx fns m fs x env with
    | some f => (evEs C fns es env).bind fun xs env => callV C fns f (x :: xs) env
    | none => .err) := by first | (rw [evE]; done) | (rw [evE]; rfl)
@[simp] theorem ev_new (f : Nat) (es : List E) : evE C fns (.new f es) env = (evEs C fns es env).bind fun xs env => newV C fns f xs env := by first | (rw [evE]; done) | (rw [evE]; rfl)
@[simp] theorem ev_dnw : evE C fns .dnw env = .ok (.fr (.dt [])) env := by first | (rw [evE]; done) | (rw [evE]; rfl)
@[simp] theorem ev_dct1 (k v : E) : evE C fns (.dct1 k v) env = (evE C fns k env).bind fun x env => (evE C fns v env).bind fun y env => dct1V x y env := by first | (rw [evE]; done) | (rw [evE]; rfl)
@[simp] theorem ev_dget (a k d : E) : evE C fns (.dget a k d) env = (evE C fns a env).bind fun x env => if isDt (nowD env x) = true then (evE C fns k env).bind fun y env => (evE C fns d env).bind fun z env => dgetV x y z env else .err := by first | (rw [evE]; done) | (rw [evE]; rfl)
@[simp] theorem ev_neE (a : E) : evE C fns (.neE a) env = (evE C fns a env).bind fun x env => neEV x env := by first | (rw [evE]; done) | (rw [evE]; rfl)
@[simp] theorem asT_att (i : Nat) (f : Str) (d : D) : asT C fns (.att i f) d env = (match ownD env i with
    | some (.obj c l) => if fldOk fns c f = true ∧ l.length < 1000 then (match putOwn env i (.obj c (fput f d l)) with
      | some env => .ok () env
      | none => .err) else .err
    | _ => .err) := by first | (rw [asT]; done) | (rw [asT]; rfl)
@[simp] theorem evIt_zip3 (a b c : E) : evIt C fns (.zip3 a b c) env = (evE C fns a env).bind fun x env => (evE C fns b env).bind fun y env => (evE C fns c env).bind fun z env => zip3V [x, y, z] env := by first | (rw [evIt]; done) | (rw [evIt]; rfl)
@[simp] theorem ex_forK (t : Tg) (i : Nat) (f : Option Str) (body : List S) : exS C fns W (.forK t i f body) env = (match pthD env i f with
    | some (.dt l) => noExc (forL (asT C fns t) (exSs C fns W body) (l.map fun p => .tup (p.1.map keyD1)) env)
    | _ => .err) := by first | (rw [exS]; done) | (rw [exS]; rfl)
@[simp] theorem attV_fz {c f : Str} {l : List (Str × D)} : attV (.fz (.obj c l)) f env = (match l.lookup f with
    | some d => .ok (.fz d) env
    | none => .err) := rfl
@[simp] theorem noExc_ok {a : A} : noExc (.ok a env) = .ok a env := rfl
@[simp] theorem noExc_err : noExc (.err : Res A) = .err := rfl
@[simp] theorem noExc_exc {x : D} : noExc (.exc x env : Res A) = .err := rfl
end
end PB

/-! PEd -/
/-! PE, part D: texts in the evaluator, by simp. -/
namespace PB
open PySem L2
section
variable {C : Callee} {fns : List Fn} {W : Nat} {env : Env} {A B : Type}
@[simp] theorem ev_join (a e : E) : evE C fns (.join a e) env = (evE C fns a env).bind fun x env => if isStrV x = true then (evE C fns e env).bind fun y env => joinV x y env else .err := by first | (rw [evE]; done) | (rw [evE]; rfl)
@[simp] theorem ev_split (a e : E) : evE C fns (.split a e) env = (evE C fns a env).bind fun x env => if isStrV x = true then (evE C fns e env).bind fun y env => splitV x y env else .err := by first | (rw [evE]; done) | (rw [evE]; rfl)
@[simp] theorem ev_kin (neg : Bool) (x : E) (g : Str) (l : List (Key × D)) : evE C fns (.kin neg x g l) env = (evE C fns x env).bind fun v env => kinV neg l v env := by first | (rw [evE]; done) | (rw [evE]; rfl)
@[simp] theorem ev_kidx (x : E) (g : Str) (l : List (Key × D)) : evE C fns (.kidx g l x) env = (evE C fns x env).bind fun v env => kidxV l v env := by first | (rw [evE]; done) | (rw [evE]; rfl)
@[simp] theorem evIt_chars (e : E) : evIt C fns (.chars e) env = (evE C fns e env).bind fun x env => charsV x env := by first | (rw [evIt]; done) | (rw [evIt]; rfl)
@[simp] theorem ex_augA (i : Nat) (f : Str) (op : Operator) (e : E) : exS C fns W (.augA i f op e) env = (match ownD env i with
    | some (.obj c0 l) => (match l.lookup f with
      | some (.int a) => if op = .Add then (evE C fns e env).bind fun v env => (match v, ownD env i with
        | .fz (.int b), some (.obj c l) => if fldOk fns c f = true ∧ l.length < 1000 ∧ c = c0 then (match putOwn env i (.obj c (fput f (.int (a + b)) l)) with
          | some env => .ok .next env
          | none => .err) else .err
        | _, _ => .err) else .err
      | _ => .err)
    | _ => .err) := by first | (rw [exS]; done) | (rw [exS]; rfl)
@[simp] theorem isStrV_fz {s : Str} : isStrV (.fz (.str s)) = true := rfl
@[simp] theorem joinV_fr {a : Str} {l : List D} : joinV (.fz (.str a)) (.fr (.lst l)) env = joinS a l env := rfl
@[simp] theorem joinV_fz {a : Str} {l : List D} : joinV (.fz (.str a)) (.fz (.lst l)) env = joinS a l env := rfl
@[simp] theorem splitV_fz {a b : Str} : splitV (.fz (.str a)) (.fz (.str b)) env = if (b.length == 0) = false ∧ a.length + 2 ≤ sizeLine then .ok (.fr (.lst ((Txt.split a b).map .str))) env else .err := rfl
@[simp] theorem kinV_fz {neg : Bool} {l : List (Key × D)} {z : Str} : kinV neg l (.fz (.str z)) env = .ok (.fz (.bl (if neg then !(kget l (.inr z)).isSome else (kget l (.inr z)).isSome))) env := rfl
@[simp] theorem kidxV_fz {l : List (Key × D)} {z : Str} : kidxV l (.fz (.str z)) env = (match kget l (.inr z) with
    | some (.int i) => .ok (.fz (.int i)) env
    | _ => .err) := rfl
@[simp] theorem charsV_fz {s : Str} : charsV (.fz (.str s)) env = .ok (s.cps.toList.map fun c => .str ⟨#[c]⟩) env := rfl
@[simp] theorem blt_str_int {i : Int} (h : i.natAbs.log2 < 1920) : bltD .str [.int i] = some (false, .str (Str.ofString (toString i))) := if_pos h
@[simp] theorem blt_str_str {a : Str} : bltD .str [.str a] = some (false, .str a) := rfl
theorem strsOf_map : ∀ ys : List Str, strsOf (ys.map .str) = some ys
  | [] => rfl
  | y :: ys => by
    show (strsOf (ys.map .str)).map (y :: ·) = _
    rw [strsOf_map ys]
    rfl
theorem joinS_ok {a : Str} {ys : List Str} (h : (ys.map (·.length)).sum + ys.length * a.length ≤ 16777216) : joinS a (ys.map .str) env = .ok (.fz (.str (Txt.join a ys))) env := by
  unfold joinS
  rw [strsOf_map]
  exact if_pos h
theorem mult_tup {x : List D} {k : Int} (h : x ≠ []) (h1 : 2 ≤ k) (h2 : k ≤ 1000) (h3 : x.length ≤ 1000) : binD .Mult (.tup x) (.int k) = some (false, .tup (List.replicate k.toNat x).flatten) := by
  show (if _ then _ else _) = _
  rw [if_pos]
  · rfl
  · simp [h, h1, h2, h3]
end
end PB

/-! PBu -/
/-! PB, part U: data of the laws; the draws. -/
namespace PB
open PySem L2
/-! ### equality -/
@[simp] theorem eqD_str {x y : Str} : eqD (.str x) (.str y) = some (decide (x = y)) := rfl
@[simp] theorem eqD_int {i j : Int} : eqD (.int i) (.int j) = some (decide (i = j)) := by
  show (if SeqAt.shaped (.int i) && SeqAt.shaped (.int j) then some (PyData.eqv (.int i) (.int j)) else none) = _
  rfl
@[simp] theorem atI_0 {d : D} {l : List D} : atI (d :: l) 0 = some d := by
  have : ixN (l.length + 1) 0 = some 0 := by unfold ixN; rw [if_pos (by omega), if_pos (by omega)]; rfl
  unfold atI
  rw [List.length_cons, this]
  rfl
theorem atI_nat {l : List D} {n : Nat} (h : n < l.length) : atI l (n : Int) = some l[n] := by
  unfold atI ixN
  rw [if_pos (by omega), if_pos (by omega)]
  simp [h]
theorem atI_in {l : List D} {i : Int} (h0 : 0 ≤ i) (h1 : i < l.length) : ∃ d, atI l i = some d ∧ d ∈ l := by
  have e : i = ((i.toNat : Nat) : Int) := by omega
  rw [e, atI_nat (by omega)]
  exact ⟨_, rfl, List.getElem_mem _⟩
@[simp] theorem atI_1 {a b : D} {l : List D} : atI (a :: b :: l) 1 = some b := atI_nat (l := a :: b :: l) (n := 1) (by simp)
@[simp] theorem atI_2 {a b c : D} {l : List D} : atI (a :: b :: c :: l) 2 = some c := atI_nat (l := a :: b :: c :: l) (n := 2) (by simp)
@[simp] theorem atI_3 {a b c d : D} {l : List D} : atI (a :: b :: c :: d :: l) 3 = some d := atI_nat (l := a :: b :: c :: d :: l) (n := 3) (by simp)
@[simp] theorem atI_4 {a b c d e : D} {l : List D} : atI (a :: b :: c :: d :: e :: l) 4 = some e := atI_nat (l := a :: b :: c :: d :: e :: l) (n := 4) (by simp)
/-! ### draws -/
def dr (cells : List D) (at_ left used : Int) : D := .dk [(.inr "cells", .lst cells), (.inr "at", .int at_), (.inr "left", .int left), (.inr "used", .int used)]
section
variable {c : List D} {a l u x : Int}
@[simp] theorem dr_cells : idxD (dr c a l u) (.str "cells") = some (.lst c) := rfl
@[simp] theorem dr_at : idxD (dr c a l u) (.str "at") = some (.int a) := rfl
@[simp] theorem dr_left : idxD (dr c a l u) (.str "left") = some (.int l) := rfl
@[simp] theorem dr_used : idxD (dr c a l u) (.str "used") = some (.int u) := rfl
@[simp] theorem put_at : subPut (dr c a l u) (.str "at") (.int x) = some (dr c x l u) := rfl
@[simp] theorem put_left : subPut (dr c a l u) (.str "left") (.int x) = some (dr c a x u) := rfl
@[simp] theorem put_used : subPut (dr c a l u) (.str "used") (.int x) = some (dr c a l x) := rfl
end
structure Dr (n : Nat) (d : D) : Prop where
  ex : ∃ (cells : List Int) (a l u : Int), d = dr (cells.map .int) a l u ∧ cells ≠ [] ∧ cells.length ≤ 64 ∧ 0 ≤ a ∧ a ≤ n ∧ 0 ≤ l ∧ 0 ≤ u ∧ u ≤ n
theorem Dr.mono {n m : Nat} {d : D} (h : Dr n d) (q : n ≤ m) : Dr m d := by
  obtain ⟨c, a, l, u, e, h1, h2, h3, h4, h5, h6, h7⟩ := h.ex
  exact ⟨c, a, l, u, e, h1, h2, h3, by omega, h5, h6, by omega⟩
def beginFn : Fn where
  name := "_law_begin"
  ps := ["_law_script"]
  ns := ["_law_script"]
  modes := [false]
  body := [.ret (some (.dct ["cells", "at", "left", "used"] [.bin .Add (.var 0) (.lst [.lit (.int 0)]), .lit (.int 0), .lit (.int 0), .lit (.int 0)]))]
def nextFn (vm vn : Str) : Fn where
  name := "_law_next"
  ps := ["_law_draw", vm]
  ns := ["_law_draw", vm, "_law_cell", "_law_cells", vn, "_law_k"]
  modes := [true, false]
  body := [
    .ite (.cmp .Gt (.idx (.var 0) (.lit (.str "left"))) (.lit (.int 0)))
      [.asg (.tp [.nm 2, .sub 0 (.lit (.str "left"))]) (.tup [.idx (.var 0) (.lit (.str "left")), .bin .FloorDiv (.idx (.var 0) (.lit (.str "left"))) (.var 1)]),
        .ret (some (.bin .Mod (.var 2) (.var 1)))] [],
    .asg (.nm 3) (.idx (.var 0) (.lit (.str "cells"))),
    .asg (.nm 2) (.idx (.var 3) (.bin .Mod (.idx (.var 0) (.lit (.str "at"))) (.blt .len [.var 3]))),
    .asg (.sub 0 (.lit (.str "at"))) (.bin .Add (.idx (.var 0) (.lit (.str "at"))) (.lit (.int 1))),
    .ite (.and (.cmp .GtE (.var 2) (.bin .Pow (.lit (.int 10)) (.lit (.int 18)))) (.cmp .LtE (.idx (.var 0) (.lit (.str "at"))) (.blt .len [.var 3])))
      [.asg (.sub 0 (.lit (.str "left"))) (.bin .FloorDiv (.var 2) (.var 1)),
        .ret (some (.bin .Mod (.var 2) (.var 1)))] [],
    .asg (.sub 0 (.lit (.str "used"))) (.bin .Add (.idx (.var 0) (.lit (.str "used"))) (.lit (.int 1))),
    .asg (.nm 4) (.bin .Add (.bin .Mod (.var 2) (.lit (.int 1000000007))) (.bin .Mult (.bin .Mult (.lit (.int 7919)) (.idx (.var 0) (.lit (.str "used")))) (.idx (.var 0) (.lit (.str "used"))))),
    .for (.nm 5) (.seq (.tup [.idx (.var 0) (.lit (.str "at")), .idx (.var 0) (.lit (.str "used"))]))
      [.asg (.nm 4) (.bin .Mod (.bin .Mult (.bin .Add (.bin .Add (.var 4) (.bin .Mult (.lit (.int 31)) (.var 5))) (.lit (.int 7))) (.lit (.int 48271))) (.lit (.int 2147483647))),
        .asg (.nm 4) (.bin .Mod (.bin .Mult (.var 4) (.bin .Add (.lit (.int 69621)) (.bin .Mult (.lit (.int 2)) (.bin .Mod (.var 5) (.lit (.int 1000)))))) (.lit (.int 2147483629)))],
    .ret (some (.bin .Mod (.bin .FloorDiv (.var 4) (.lit (.int 7))) (.var 1)))]
section
variable {fns : List Fn} {W k f : Nat}
theorem begin_spec (h : fns[f]? = some beginFn) {ns : List Int} (hl : ns.length ≤ 63) : ∃ d, callF fns W (k + 1) f [.lst (ns.map .int)] = .ret (.fr d) [] ∧ Dr 0 d := by
  refine ⟨dr ((ns ++ [0]).map .int) 0 0 0, ?_, ⟨ns ++ [0], 0, 0, 0, rfl, by simp, by simp; omega, by omega, by simp, by omega, by omega, by simp⟩⟩
  have hz : ns.length + 1 ≤ sizeLine := by unfold sizeLine; omega
  simp [callF_at h, beginFn, hz, dctV, sizeLine]
  rw [if_pos (by omega)]
  simp [dctV, sizeLine, dr]
  rfl
@[simp] theorem sz_small {n : Nat} (h : n < 1000) : n ≤ sizeLine := by unfold sizeLine; omega
theorem pow18 : binD .Pow (.int 10) (.int 18) = some (false, .int 1000000000000000000) := rfl
theorem next_spec {vm vn : Str} (h : fns[f]? = some (nextFn vm vn)) {n : Nat} (hn : n < 1000000000) {d : D} (hd : Dr n d) {m : Int} (hm : 0 < m) (hm2 : m < 1073741824) :
    ∃ r d', callF fns W (k + 1) f [d, .int m] = .ret (.fz (.int r)) [d'] ∧ 0 ≤ r ∧ r < m ∧ Dr (n + 1) d' := by
  obtain ⟨c, a, l, u, rfl, h1, h2, h3, h4, h5, h6, h7⟩ := hd.ex
  have hmod : ∀ x : Int, 0 ≤ x % m ∧ x % m < m := fun x => ⟨Int.emod_nonneg _ (by omega), Int.emod_lt_of_pos _ hm⟩
  have hdiv : ∀ x : Int, 0 ≤ x → 0 ≤ x / m := fun x hx => Int.ediv_nonneg hx (by omega)
  by_cases hl : 0 < l
  · refine ⟨l % m, dr (c.map .int) a (l / m) u, ?_, (hmod l).1, (hmod l).2, ⟨c, a, _, u, rfl, h1, h2, h3, by omega, hdiv l h5, h6, by omega⟩⟩
    simp [callF_at h, nextFn, hl, bin_div (show 0 < m ∧ m < 1073741824 from ⟨hm, hm2⟩), bin_mod hm]
  · have hc : 0 < c.length := by
      cases c with
      | nil => exact absurd rfl h1
      | cons _ _ => simp
    obtain ⟨x, hx⟩ : ∃ x : Int, atI (c.map D.int) (a % (c.length : Int)) = some (.int x) := by
      obtain ⟨d, e, m⟩ := atI_in (l := c.map D.int) (i := a % (c.length : Int)) (Int.emod_nonneg _ (by omega)) (by rw [List.length_map]; exact Int.emod_lt_of_pos _ (by omega))
      obtain ⟨x, _, rfl⟩ := List.mem_map.mp m
      exact ⟨x, e⟩
    have hcl : binD .Mod (.int a) (.int (c.length : Int)) = some (false, .int (a % c.length)) := bin_mod (by omega)
    have hd' : ∀ y, binD .FloorDiv (.int y) (.int m) = some (false, .int (y / m)) := fun y => bin_div ⟨hm, hm2⟩
    have hm' : ∀ y, binD .Mod (.int y) (.int m) = some (false, .int (y % m)) := fun y => bin_mod hm
    by_cases big : 1000000000000000000 ≤ x ∧ a + 1 ≤ c.length
    · refine ⟨x % m, dr (c.map .int) (a + 1) (x / m) u, ?_, (hmod x).1, (hmod x).2, ⟨c, _, _, u, rfl, h1, h2, by omega, by omega, hdiv x (by omega), h6, by omega⟩⟩
      simp [callF_at h, nextFn, hl, hcl, hx, pow18, big.1, big.2, hd', hm']
    · have q1 : ∀ y, binD .Mod (.int y) (.int 1000000007) = some (false, .int (y % 1000000007)) := fun y => bin_mod (by decide)
      have q2 : ∀ y, binD .Mod (.int y) (.int 2147483647) = some (false, .int (y % 2147483647)) := fun y => bin_mod (by decide)
      have q3 : ∀ y, binD .Mod (.int y) (.int 2147483629) = some (false, .int (y % 2147483629)) := fun y => bin_mod (by decide)
      have q4 : ∀ y, binD .Mod (.int y) (.int 1000) = some (false, .int (y % 1000)) := fun y => bin_mod (by decide)
      have q5 : ∀ y, binD .FloorDiv (.int y) (.int 7) = some (false, .int (y / 7)) := fun y => bin_div (by decide)
      have p1 : ∀ y, binD .Mult (.int 7919) (.int y) = some (false, .int (7919 * y)) := fun y => bin_mul (by simp [mulOk])
      have p2 : binD .Mult (.int (7919 * (u + 1))) (.int (u + 1)) = some (false, .int (7919 * (u + 1) * (u + 1))) := bin_mul (by simp [mulOk]; omega)
      have p3 : ∀ y, binD .Mult (.int 31) (.int y) = some (false, .int (31 * y)) := fun y => bin_mul (by simp [mulOk])
      have p4 : ∀ y, binD .Mult (.int y) (.int 48271) = some (false, .int (y * 48271)) := fun y => bin_mul (by simp [mulOk])
      have p5 : ∀ y, binD .Mult (.int 2) (.int y) = some (false, .int (2 * y)) := fun y => bin_mul (by simp [mulOk])
      have p6 : ∀ y z, binD .Mult (.int (y % 2147483647)) (.int z) = some (false, .int (y % 2147483647 * z)) := fun y z => bin_mul (by simp [mulOk]; omega)
      let s1 : Int → Int → Int := fun n k => (n + 31 * k + 7) * 48271 % 2147483647
      let s2 : Int → Int → Int := fun n k => n * (69621 + 2 * (k % 1000)) % 2147483629
      let N : Int := s2 (s1 (s2 (s1 (x % 1000000007 + 7919 * (u + 1) * (u + 1)) (a + 1)) (a + 1)) (u + 1)) (u + 1)
      refine ⟨N / 7 % m, dr (c.map .int) (a + 1) l (u + 1), ?_, (hmod _).1, (hmod _).2, ⟨c, _, _, _, rfl, h1, h2, by omega, by omega, h5, by omega, by omega⟩⟩
      have nb : ¬ (1000000000000000000 ≤ x ∧ a + 1 ≤ c.length) := big
      by_cases b1 : 1000000000000000000 ≤ x
      · have b2 : ¬ (a + 1 ≤ c.length) := fun z => big ⟨b1, z⟩
        simp [callF_at h, nextFn, hl, hcl, hx, pow18, b1, b2, hd', hm', q1, q2, q3, q4, q5, p1, p2, p3, p4, p5, p6, forL]
        rfl
      · simp [callF_at h, nextFn, hl, hcl, hx, pow18, b1, hd', hm', q1, q2, q3, q4, q5, p1, p2, p3, p4, p5, p6, forL]
        rfl
end
end PB

/-! PBv -/
/-! PB, part V: repr and equality of small data. -/
namespace PB
open PySem L2
/-! data without dicts, their integers of at most 60 figures -/
mutual
def fineD : D → Bool
  | .non => true
  | .bl _ => true
  | .int i => decide (i.natAbs < 10 ^ 60)
  | .str s => PyData.canLay0 (.str s)
  | .tup l => fineDs l
  | .lst l => fineDs l
  | _ => false
def fineDs : List D → Bool
  | [] => true
  | d :: ds => fineD d && fineDs ds
end
mutual
def wD : D → Nat
  | .non => 4
  | .bl _ => 5
  | .int _ => 61
  | .str s => (PyData.shown (.str s)).length
  | .tup l => wDs l + 3
  | .lst l => wDs l + 3
  | _ => 0
def wDs : List D → Nat
  | [] => 0
  | d :: ds => wD d + 2 + wDs ds
end
mutual
def dpD : D → Nat
  | .tup l => dpDs l + 1
  | .lst l => dpDs l + 1
  | _ => 0
def dpDs : List D → Nat
  | [] => 0
  | d :: ds => max (dpD d) (dpDs ds)
end
structure FineR (d : D) : Prop where
  sh : shows d = true
  sa : (toPy d).showable = true
  cl : (toPy d).canLay0 = true
  dp : (toPy d).depth = dpD d
  w : (toPy d).shown.length ≤ wD d
structure FineRs (l : List D) : Prop where
  sh : showss l = true
  sa : PyData.showableAll (toPys l) = true
  cl : PyData.canLayAll0 (toPys l) = true
  dp : PyData.depthAll (toPys l) = dpDs l
  w : ((PyData.shownAll (toPys l)).map (·.length)).sum + 2 * (PyData.shownAll (toPys l)).length ≤ wDs l
theorem int_len {i : Int} (h : i.natAbs < 10 ^ 60) : (PyData.shown (.int i)).length ≤ 61 := by
  have e := int_text_length_le10 (a := i) (k := 60) (by decide) h
  show (Str.ofString (toString i)).length ≤ 61
  rw [ofString_length]
  exact e
theorem int_show {i : Int} (h : i.natAbs < 10 ^ 60) : i.natAbs.log2 < 1920 := by
  by_cases z : i.natAbs = 0
  · rw [z]; decide
  · refine (Nat.log2_lt z).mpr (Nat.lt_of_lt_of_le h ?_)
    have : (10 : Nat) ^ 60 ≤ 2 ^ 200 := by decide
    exact Nat.le_trans this (Nat.pow_le_pow_right (by decide) (by decide))
mutual
theorem fine_of : ∀ d : D, fineD d = true → FineR d
  | .non, _ => ⟨rfl, rfl, rfl, rfl, by decide⟩
  | .bl b, _ => ⟨rfl, rfl, rfl, rfl, by cases b <;> decide⟩
  | .int i, h => by
    have h : i.natAbs < 10 ^ 60 := by simpa [fineD] using h
    exact ⟨rfl, by simp only [toPy, PyData.showable]; exact decide_eq_true (int_show h), rfl, rfl, int_len h⟩
  | .str s, h => ⟨rfl, rfl, h, rfl, Nat.le_refl _⟩
  | .tup l, h => by
    have r := fine_ofs l (by simpa only [fineD] using h)
    refine ⟨r.sh, r.sa, r.cl, ?_, ?_⟩
    · show PyData.depthAll (toPys l) + 1 = dpDs l + 1
      rw [r.dp]
    · have z := tupleText_len_le (PyData.shownAll (toPys l))
      have w := r.w
      show (tupleText (PyData.shownAll (toPys l))).length ≤ wDs l + 3
      omega
  | .lst l, h => by
    have r := fine_ofs l (by simpa only [fineD] using h)
    refine ⟨r.sh, r.sa, r.cl, ?_, ?_⟩
    · show PyData.depthAll (toPys l) + 1 = dpDs l + 1
      rw [r.dp]
    · have z := listText_len_le (PyData.shownAll (toPys l))
      have w := r.w
      show (listText (PyData.shownAll (toPys l))).length ≤ wDs l + 3
      omega
  | .dk _, h => nomatch h
  | .dt _, h => nomatch h
  | .obj _ _, h => nomatch h
  | .exc _ _, h => nomatch h
  | .clo _ _, h => nomatch h
theorem fine_ofs : ∀ l : List D, fineDs l = true → FineRs l
  | [], _ => ⟨rfl, rfl, rfl, rfl, by decide⟩
  | d :: ds, h => by
    have h : (fineD d && fineDs ds) = true := by simpa only [fineDs] using h
    simp only [Bool.and_eq_true] at h
    have r1 := fine_of d h.1
    have r2 := fine_ofs ds h.2
    refine ⟨?_, ?_, ?_, ?_, ?_⟩
    · simp only [showss, r1.sh, r2.sh, Bool.and_self]
    · simp only [toPys, PyData.showableAll, r1.sa, r2.sa, Bool.and_self]
    · simp only [toPys, PyData.canLayAll0, r1.cl, r2.cl, Bool.and_self]
    · simp only [toPys, PyData.depthAll, r1.dp, r2.dp, dpDs]
    · have w1 := r1.w
      have w2 := r2.w
      simp only [toPys, PyData.shownAll, List.map_cons, List.sum_cons, List.length_cons, wDs]
      omega
end
mutual
theorem eqv_self : ∀ d : D, fineD d = true → PyData.eqv (toPy d) (toPy d) = true
  | .non, _ => rfl
  | .bl b, _ => by simp [toPy, PyData.eqv]
  | .int i, _ => by simp [toPy, PyData.eqv]
  | .str s, _ => by simp [toPy, PyData.eqv]
  | .tup l, h => by
    have := eqv_selfs l (by simpa only [fineD] using h)
    simp only [toPy, PyData.eqv, this]
  | .lst l, h => by
    have := eqv_selfs l (by simpa only [fineD] using h)
    simp only [toPy, PyData.eqv, this]
  | .dk _, h => nomatch h
  | .dt _, h => nomatch h
  | .obj _ _, h => nomatch h
  | .exc _ _, h => nomatch h
  | .clo _ _, h => nomatch h
theorem eqv_selfs : ∀ l : List D, fineDs l = true → PyData.eqvAll (toPys l) (toPys l) = true
  | [], _ => rfl
  | d :: ds, h => by
    have h : (fineD d && fineDs ds) = true := by simpa only [fineDs] using h
    simp only [Bool.and_eq_true] at h
    simp only [toPys, PyData.eqvAll, eqv_self d h.1, eqv_selfs ds h.2, Bool.and_self]
end
theorem repr_fine {d : D} (h : fineD d = true) (h1 : dpD d ≤ 64) (h2 : wD d ≤ 16777216) : reprD d = some (.str (toPy d).shown) := by
  have r := fine_of d h
  have w := r.w
  unfold reprD
  rw [r.sh, r.sa, r.dp]
  rw [if_pos]
  simp only [Bool.and_true, Bool.true_and, Bool.and_eq_true, decide_eq_true_eq]
  exact ⟨h1, by unfold sizeLine; omega⟩
theorem eqD_self {d : D} (h : fineD d = true) (h1 : dpD d ≤ 64) : eqD d d = some true := by
  have r := fine_of d h
  have e : eqG d d = some true := by
    unfold eqG SeqAt.shaped
    rw [r.cl, r.dp, decide_eq_true h1, eqv_self d h]
    rfl
  unfold eqD
  split
  · simp
  · exact e
theorem eqG_fine {a b : D} (h : fineD a = true) (h1 : dpD a ≤ 64) (g : fineD b = true) (g1 : dpD b ≤ 64) : eqG a b = some (PyData.eqv (toPy a) (toPy b)) := by
  have r := fine_of a h
  have q := fine_of b g
  unfold eqG SeqAt.shaped
  rw [r.cl, r.dp, decide_eq_true h1, q.cl, q.dp, decide_eq_true g1]
  rfl
end PB

/-! PBw -/
/-! PB, part W: comprehensions and loops by plain lists. -/
namespace PB
open PySem L2
section
variable {C : Callee} {fns : List Fn} {env env0 : Env} {t : Tg} {c : Option E} {elt : E}
/-- alike but for the slots vs -/
def Agree (vs : List Nat) (e env : Env) : Prop := e.length = env.length ∧ ∀ j : Nat, j ∉ vs → e[j]? = env[j]?
theorem Agree.refl (vs : List Nat) : Agree vs env env := ⟨rfl, fun _ _ => rfl⟩
theorem restore_agree {vs : List Nat} {e : Env} (h : Agree vs e env) : restore env e vs = env := by
  apply List.ext_getElem?
  intro j
  by_cases z : j ∈ vs
  · exact restore_in h.1.symm z
  · rw [restore_out z, h.2 j z]
/-- a comprehension that changes nothing -/
theorem compL_pure (A : D → Env) (p : D → Bool) (g : D → D) : ∀ (ds acc : List D) (e : Env), (∀ d ∈ ds, ∀ e, Agree t.slots e env → asT C fns t d (clear e t.slots) = .ok () (A d)) → (∀ d ∈ ds, Agree t.slots (A d) env) → (∀ d ∈ ds, evC C fns c (A d) = .ok (p d) (A d)) →
    (∀ d ∈ ds, p d = true → evE C fns elt (A d) = .ok (.fz (g d)) (A d)) → acc.length + ds.length ≤ sizeLine → Agree t.slots e env →
    ∃ e', compL (fun d e => asT C fns t d (clear e t.slots)) (evC C fns c) (evE C fns elt) ds acc e = .ok (acc ++ (ds.filter p).map g) e' ∧ Agree t.slots e' env
  | [], acc, e, _, _, _, _, _, h => ⟨e, by simp [compL], h⟩
  | d :: ds, acc, e, h1, h2, h3, h4, hl, h => by
    have a1 := h1 d List.mem_cons_self e h
    have a2 := h2 d List.mem_cons_self
    have a3 := h3 d List.mem_cons_self
    simp only [List.length_cons] at hl
    have rest := fun acc' (hl' : acc'.length + ds.length ≤ sizeLine) => compL_pure A p g ds acc' (A d) (fun d hd => h1 d (List.mem_cons_of_mem _ hd)) (fun d hd => h2 d (List.mem_cons_of_mem _ hd)) (fun d hd => h3 d (List.mem_cons_of_mem _ hd)) (fun d hd => h4 d (List.mem_cons_of_mem _ hd)) hl' a2
    simp only [compL, a1, a3]
    cases q : p d with
    | false =>
      obtain ⟨e', r1, r2⟩ := rest acc (by omega)
      refine ⟨e', ?_, r2⟩
      rw [List.filter_cons, q]
      exact r1
    | true =>
      have a4 := h4 d List.mem_cons_self q
      obtain ⟨e', r1, r2⟩ := rest (acc ++ [g d]) (by simp; omega)
      refine ⟨e', ?_, r2⟩
      rw [List.filter_cons, q]
      simp only [a4, takeD_fz]
      rw [if_pos (by omega), r1]
      simp
theorem comp_pure {it : It} {ds : List D} (A : D → Env) (p : D → Bool) (g : D → D) (hi : evIt C fns it env0 = .ok ds env) (h1 : ∀ d ∈ ds, ∀ e, Agree t.slots e env → asT C fns t d (clear e t.slots) = .ok () (A d)) (h2 : ∀ d ∈ ds, Agree t.slots (A d) env)
    (h3 : ∀ d ∈ ds, evC C fns c (A d) = .ok (p d) (A d)) (h4 : ∀ d ∈ ds, p d = true → evE C fns elt (A d) = .ok (.fz (g d)) (A d)) (hl : ds.length ≤ sizeLine) :
    evE C fns (.comp elt t it c) env0 = .ok (.fr (.lst ((ds.filter p).map g))) env := by
  obtain ⟨e', r1, r2⟩ := compL_pure (t := t) (c := c) (elt := elt) A p g ds [] env h1 h2 h3 h4 (by simpa using hl) (Agree.refl _)
  rw [ev_comp, hi]
  simp only [bind_ok]
  rw [r1]
  simp [restore_agree r2]
theorem set_agree {e : Env} {i : Nat} {s : Slot} (h : Agree [i] e env) : (e.set i .no).set i s = env.set i s := by
  apply List.ext_getElem?
  intro j
  by_cases z : j = i
  · subst z
    by_cases hj : j < env.length
    · rw [List.getElem?_set_self (by rw [List.length_set, h.1]; exact hj), List.getElem?_set_self hj]
    · rw [List.getElem?_eq_none (by rw [List.length_set, List.length_set, h.1]; omega), List.getElem?_eq_none (by rw [List.length_set]; omega)]
  · rw [List.getElem?_set_ne (Ne.symm z), List.getElem?_set_ne (Ne.symm z), List.getElem?_set_ne (Ne.symm z)]
    exact h.2 j (by simpa using z)
/-- [elt for x in it if c], x one name -/
theorem comp_one {it : It} {ds : List D} {i : Nat} (p : D → Bool) (g : D → D) (hi : evIt C fns it env0 = .ok ds env) (hl0 : i < env.length) (h3 : ∀ d ∈ ds, evC C fns c (env.set i (.val d)) = .ok (p d) (env.set i (.val d)))
    (h4 : ∀ d ∈ ds, p d = true → evE C fns elt (env.set i (.val d)) = .ok (.fz (g d)) (env.set i (.val d))) (hl : ds.length ≤ sizeLine) : evE C fns (.comp elt (.nm i) it c) env0 = .ok (.fr (.lst ((ds.filter p).map g))) env := by
  refine comp_pure (t := .nm i) (fun d => env.set i (.val d)) p g hi (fun d _ e he => ?_) (fun d _ => ⟨List.length_set .., fun j hj => List.getElem?_set_ne (by intro z; exact hj (by rw [z]; exact List.mem_singleton.mpr rfl))⟩) h3 h4 hl
  have he : Agree [i] e env := he
  have hl1 : i < (e.set i .no).length := by rw [List.length_set, he.1]; exact hl0
  show asT C fns (.nm i) d (e.set i .no) = _
  rw [asT_nm, setV_eq, List.getElem?_set_self (by rw [he.1]; exact hl0), if_pos (by rfl)]
  simp only
  rw [set_agree he]
/-- [elt for x, y in it if c] -/
theorem comp_two {it : It} {ds : List (D × D)} {i j : Nat} (p : D × D → Bool) (g : D × D → D) (hi : evIt C fns it env0 = .ok (ds.map fun q => .tup [q.1, q.2]) env) (hli : i < env.length) (hlj : j < env.length) (hij : i ≠ j)
    (h3 : ∀ q ∈ ds, evC C fns c ((env.set i (.val q.1)).set j (.val q.2)) = .ok (p q) ((env.set i (.val q.1)).set j (.val q.2)))
    (h4 : ∀ q ∈ ds, p q = true → evE C fns elt ((env.set i (.val q.1)).set j (.val q.2)) = .ok (.fz (g q)) ((env.set i (.val q.1)).set j (.val q.2))) (hl : ds.length ≤ sizeLine) :
    evE C fns (.comp elt (.tp [.nm i, .nm j]) it c) env0 = .ok (.fr (.lst ((ds.filter p).map g))) env := by
  let un : D → D × D := fun d => match d with
    | .tup [a, b] => (a, b)
    | _ => (.non, .non)
  have e : ((ds.map fun q => D.tup [q.1, q.2]).filter (fun d => p (un d))).map (fun d => g (un d)) = (ds.filter p).map g := by
    clear hi h3 h4 hl
    induction ds with
    | nil => rfl
    | cons q r ih =>
      rw [List.map_cons, List.filter_cons, List.filter_cons]
      show (if p q = true then _ else _ : List D).map _ = _
      split
      · rw [List.map_cons, List.map_cons, ih]
      · exact ih
  rw [← e]
  refine comp_pure (t := .tp [.nm i, .nm j]) (fun d => (env.set i (.val (un d).1)).set j (.val (un d).2)) (fun d => p (un d)) (fun d => g (un d)) hi (fun d hd e he => ?_) (fun d _ => ⟨by rw [List.length_set, List.length_set], fun x hx => ?_⟩) (fun d hd => ?_) (fun d hd hp => ?_) (by simpa using hl)
  · obtain ⟨q, _, rfl⟩ := List.mem_map.mp hd
    have he : Agree [i, j] e env := he
    have hle : e.length = env.length := he.1
    show asT C fns (.tp [.nm i, .nm j]) (.tup [q.1, q.2]) ((e.set j .no).set i .no) = .ok () ((env.set i (.val q.1)).set j (.val q.2))
    have k1 : ((e.set j .no).set i .no)[i]? = some .no := List.getElem?_set_self (by rw [List.length_set, hle]; exact hli)
    have k2 : (((e.set j .no).set i .no).set i (.val q.1))[j]? = some .no := by
      rw [List.getElem?_set_ne hij, List.getElem?_set_ne hij, List.getElem?_set_self (by rw [hle]; exact hlj)]
    simp only [asT_tp, List.length_cons, List.length_nil, if_true, asTs_cons, asT_nm, setV_eq, k1, nrO_some, nr_no, bind_ok, k2, asTs_nil]
    congr 1
    apply List.ext_getElem?
    intro x
    by_cases z : x = j
    · subst z
      rw [List.getElem?_set_self (by simp only [List.length_set, hle]; exact hlj), List.getElem?_set_self (by rw [List.length_set]; exact hlj)]
    · rw [List.getElem?_set_ne (Ne.symm z), List.getElem?_set_ne (Ne.symm z)]
      by_cases y : x = i
      · subst y
        rw [List.getElem?_set_self (by simp only [List.length_set, hle]; exact hli), List.getElem?_set_self hli]
      · rw [List.getElem?_set_ne (Ne.symm y), List.getElem?_set_ne (Ne.symm y), List.getElem?_set_ne (Ne.symm z), List.getElem?_set_ne (Ne.symm y)]
        exact he.2 x (by simp [y, z])
  · have hx : x ∉ [i, j] := hx
    have hx : x ≠ i ∧ x ≠ j := by simpa using hx
    rw [List.getElem?_set_ne (Ne.symm hx.2), List.getElem?_set_ne (Ne.symm hx.1)]
  · obtain ⟨q, hq, rfl⟩ := List.mem_map.mp hd
    exact h3 q hq
  · obtain ⟨q, hq, rfl⟩ := List.mem_map.mp hd
    exact h4 q hq hp
/-- a for whose turns keep an invariant -/
theorem forL_inv {asg : D → Env → Res Unit} {body : Env → Res Flow} (P : Nat → Env → Prop) : ∀ (ds : List D) (i : Nat) (env : Env), P i env → (∀ (j : Nat) (d : D) (env : Env), ds[j]? = some d → P (i + j) env → ∃ e1 e2, asg d env = .ok () e1 ∧ body e1 = .ok .next e2 ∧ P (i + j + 1) e2) →
    ∃ e, forL asg body ds env = .ok .next e ∧ P (i + ds.length) e
  | [], i, env, h, _ => ⟨env, rfl, h⟩
  | d :: ds, i, env, h, st => by
    obtain ⟨e1, e2, h1, h2, h3⟩ := st 0 d env rfl h
    obtain ⟨e, r1, r2⟩ := forL_inv P ds (i + 1) e2 h3 fun j d' env' hj hp => by
      have := st (j + 1) d' env' hj (by rw [← Nat.add_assoc, Nat.add_right_comm]; exact hp)
      rw [← Nat.add_assoc] at this
      rw [Nat.add_right_comm i 1 j]
      exact this
    refine ⟨e, ?_, ?_⟩
    · simp only [forL, h1, h2, bind_ok, r1]
    · rw [List.length_cons, Nat.add_comm ds.length 1, ← Nat.add_assoc]
      exact r2
end
end PB

/-! PBx -/
/-! PB, part X: comprehensions that draw. -/
namespace PB
open PySem L2
section
variable {C : Callee} {fns : List Fn} {env env0 : Env} {elt : E}
theorem set_comm2 {e : Env} {i j : Nat} {s t : Slot} (h : i ≠ j) : (e.set i s).set j t = (e.set j t).set i s := List.set_comm _ _ h
/-- [elt for x in it]; elt changes the thing of slot j (mk: by reference, or own) -/
theorem compL_draw {i j : Nat} (hij : i ≠ j) (hi : i < env.length) (mk : D → Slot) (R : D → Prop) (Q : Nat → D → Prop) (c : Nat) : ∀ (ds acc : List D) (m : Nat) (d : D) (s : Slot), Q m d → acc.length + ds.length ≤ sizeLine →
    (∀ x ∈ ds, ∀ m' d, m' ≤ m + c * ds.length → Q m' d → ∃ y d', evE C fns elt ((env.set j (mk d)).set i (.val x)) = .ok (.fz y) ((env.set j (mk d')).set i (.val x)) ∧ R y ∧ Q (m' + c) d') →
    ∃ ys d' s', compL (fun d e => asT C fns (.nm i) d (clear e [i])) (evC C fns none) (evE C fns elt) ds acc ((env.set j (mk d)).set i s) = .ok (acc ++ ys) ((env.set j (mk d')).set i s') ∧ ys.length = ds.length ∧ (∀ y ∈ ys, R y) ∧ Q (m + c * ds.length) d'
  | [], acc, m, d, s, q, hl, _ => ⟨[], d, s, by simp [compL], rfl, fun _ h => (nomatch h), by simpa using q⟩
  | x :: ds, acc, m, d, s, q, hl, st => by
    simp only [List.length_cons] at hl
    have hle : m ≤ m + c * (x :: ds).length := Nat.le_add_right _ _
    obtain ⟨y, d1, h1, h2, h3⟩ := st x List.mem_cons_self m d hle q
    have hm : m + c + c * ds.length = m + c * (x :: ds).length := by rw [List.length_cons, Nat.mul_succ]; omega
    obtain ⟨ys, d2, s2, g1, g2, g3, g4⟩ := compL_draw hij hi mk R Q c ds (acc ++ [y]) (m + c) d1 (.val x) h3 (by simp; omega) fun x' hx m' d' hm' q' => st x' (List.mem_cons_of_mem _ hx) m' d' (by rw [hm] at hm'; exact hm') q'
    refine ⟨y :: ys, d2, s2, ?_, by simp [g2], fun z hz => ?_, by rw [← hm]; exact g4⟩
    · have a1 : asT C fns (.nm i) x (clear ((env.set j (mk d)).set i s) [i]) = .ok () ((env.set j (mk d)).set i (.val x)) := by
        show asT C fns (.nm i) x ((((env.set j (mk d)).set i s)).set i .no) = _
        rw [asT_nm, setV_eq, List.getElem?_set_self (by simpa using hi)]
        simp
      simp only [compL, a1, evC_none, h1, takeD_fz]
      rw [if_pos (by omega), g1]
      simp
    · rcases List.mem_cons.mp hz with z1 | z1
      · rw [z1]; exact h2
      · exact g3 z z1
theorem comp_draw {it : It} {ds : List D} {i j : Nat} (hij : i ≠ j) (hil : i < env.length) (mk : D → Slot) (R : D → Prop) (Q : Nat → D → Prop) (c : Nat) (d : D) (m : Nat) (hi : evIt C fns it env0 = .ok ds (env.set j (mk d))) (q : Q m d) (hl : ds.length ≤ sizeLine)
    (st : ∀ x ∈ ds, ∀ m' d, m' ≤ m + c * ds.length → Q m' d → ∃ y d', evE C fns elt ((env.set j (mk d)).set i (.val x)) = .ok (.fz y) ((env.set j (mk d')).set i (.val x)) ∧ R y ∧ Q (m' + c) d') :
    ∃ ys d', evE C fns (.comp elt (.nm i) it none) env0 = .ok (.fr (.lst ys)) (env.set j (mk d')) ∧ ys.length = ds.length ∧ (∀ y ∈ ys, R y) ∧ Q (m + c * ds.length) d' := by
  obtain ⟨s, hs⟩ : ∃ s, env[i]? = some s := ⟨env[i], by simp⟩
  have e0 : (env.set j (mk d)) = (env.set j (mk d)).set i s := by
    apply List.ext_getElem?
    intro x
    by_cases z : x = i
    · subst z
      rw [List.getElem?_set_self (by simpa using hil), List.getElem?_set_ne (Ne.symm hij), hs]
    · rw [List.getElem?_set_ne (Ne.symm z)]
  obtain ⟨ys, d', s', g1, g2, g3, g4⟩ := compL_draw (elt := elt) hij hil mk R Q c ds [] m d s q (by simpa using hl) st
  refine ⟨ys, d', ?_, g2, g3, g4⟩
  rw [ev_comp, hi]
  simp only [bind_ok]
  have g1' : compL (fun d e => asT C fns (.nm i) d (clear e (Tg.slots (.nm i)))) (evC C fns none) (evE C fns elt) ds [] (env.set j (mk d)) = .ok ys ((env.set j (mk d')).set i s') := by
    rw [e0]
    exact g1
  rw [g1']
  show Res.ok (Vd.fr (D.lst ys)) (restore (env.set j (mk d)) ((env.set j (mk d')).set i s') [i]) = _
  congr 1
  have h1 : (env.set j (mk d))[i]? = some s := by rw [List.getElem?_set_ne (Ne.symm hij), hs]
  simp only [restore, h1]
  apply List.ext_getElem?
  intro x
  by_cases z : x = i
  · subst z
    rw [List.getElem?_set_self (by simpa using hil), List.getElem?_set_ne (Ne.symm hij), hs]
  · rw [List.getElem?_set_ne (Ne.symm z), List.getElem?_set_ne (Ne.symm z)]
end
end PB

/-! PBy -/
/-! PB, part Y: bodies statement by statement. -/
namespace PB
open PySem L2
section
variable {fns : List Fn} {W k : Nat} {C : Callee} {env env' : Env}
theorem exs_seq {s : S} {ss : List S} {R : Res Flow} (h : exS C fns W s env = .ok .next env') (h2 : exSs C fns W ss env' = R) : exSs C fns W (s :: ss) env = R := by
  rw [exs_cons, h]
  exact h2
theorem exs_ret {s : S} {ss : List S} {v : Vd} (h : exS C fns W s env = .ok (.ret v) env') : exSs C fns W (s :: ss) env = .ok (.ret v) env' := by
  rw [exs_cons, h]
  rfl
theorem callF_run {f : Nat} {fn : Fn} {ds : List D} {env0 env1 : Env} {v : Vd} {o : List D} {r : Rt} (h : fns[f]? = some fn) (hl : ds.length = fn.ps.length) (hs : start fn.modes fn.ns.length ds = env0)
    (hb : exSs (callF fns W k) fns W fn.body env0 = .ok (.ret v) env1) (ho : outsOf fn.modes env1 = some o) (hr : rtOf env1 v = some r) : callF fns W (k + 1) f ds = .ret r o := by
  rw [callF_at h, if_pos hl, hs, hb]
  simp only [fin_ret, ho, hr]
theorem rng_small {i : Int} (h0 : -1000000 ≤ i) (h1 : i ≤ 1000000) : rngOk i = true := by
  unfold rngOk
  have a : -(2 ^ 62) ≤ i := by omega
  have b : i < 2 ^ 62 := by omega
  rw [decide_eq_true a, decide_eq_true b]
  rfl
theorem rngV_ok {lo hi : Int} (h0 : -1000000 ≤ lo) (h1 : lo ≤ 1000000) (h2 : -1000000 ≤ hi) (h3 : hi ≤ 1000000) (h4 : hi - lo ≤ 1000000) : rngV lo hi env = .ok (rangeD lo (hi - lo).toNat) env := by
  rw [rngV_eq, rng_small h0 h1, rng_small h2 h3, decide_eq_true h4]
  rfl
theorem evIt_rng1_ok {e : E} {h : Int} (he : evE C fns e env = .ok (.fz (.int h)) env') (h0 : 0 ≤ h) (h1 : h ≤ 1000000) : evIt C fns (.rng1 e) env = .ok (rangeD 0 h.toNat) env' := by
  rw [evIt_rng1, he]
  show rngV 0 h env' = _
  rw [rngV_ok (by omega) (by omega) (by omega) (by omega) (by omega), Int.sub_zero]
theorem evIt_rng2_ok {a b : E} {lo hi : Int} {env1 : Env} (ha : evE C fns a env = .ok (.fz (.int lo)) env1) (hb : evE C fns b env1 = .ok (.fz (.int hi)) env') (h0 : -500000 ≤ lo) (h1 : lo ≤ 500000) (h2 : -500000 ≤ hi) (h3 : hi ≤ 500000) : evIt C fns (.rng2 a b) env = .ok (rangeD lo (hi - lo).toNat) env' := by
  rw [evIt_rng2, ha, bind_ok, hb]
  show rngV lo hi env' = _
  exact rngV_ok (by omega) (by omega) (by omega) (by omega) (by omega)
/-- for over range(e) -/
theorem for_rng1 {e : E} {t : Tg} {body : List S} {h : Int} {f : Flow} {env2 : Env} (he : evE C fns e env = .ok (.fz (.int h)) env') (h0 : 0 ≤ h) (h1 : h ≤ 1000000) (hf : forL (asT C fns t) (exSs C fns W body) (rangeD 0 h.toNat) env' = .ok f env2) : exS C fns W (.for t (.rng1 e) body) env = .ok f env2 := by
  rw [ex_for, evIt_rng1_ok he h0 h1, bind_ok]
  exact hf
theorem for_seq {e : E} {t : Tg} {body : List S} {v : Vd} {d : D} {l : List D} {f : Flow} {env1 env2 : Env} (he : evE C fns e env = .ok v env1) (ht : takeD v env1 = some (d, env')) (hd : seqD d = some l) (hf : forL (asT C fns t) (exSs C fns W body) l env' = .ok f env2) : exS C fns W (.for t (.seq e) body) env = .ok f env2 := by
  rw [ex_for, evIt_seq, he, bind_ok, seqV_eq, ht]
  simp only [hd, optR_some, bind_ok]
  exact hf
theorem whl_step {c : Env → Res Bool} {body : Env → Res Flow} {n : Nat} {env1 env2 : Env} {R : Res Flow} (hc : c env = .ok true env1) (hb : body env1 = .ok .next env2) (h : whlL c body n env2 = R) : whlL c body (n + 1) env = R := by
  simp only [whlL, hc, bind_ok, if_true, hb]
  exact h
theorem whl_stop {c : Env → Res Bool} {body : Env → Res Flow} {n : Nat} {env1 : Env} (hc : c env = .ok false env1) : whlL c body (n + 1) env = .ok .next env1 := by
  simp only [whlL, hc, bind_ok]
  rfl
end
end PB

/-! PBz -/
/-! PB, part Z: statements by what holds behind them; either they go on, or they return. -/
namespace PB
open PySem L2
def Run2 (R : Res Flow) (N : Env → Prop) (Q : Vd → Env → Prop) : Prop := (∃ e, R = .ok .next e ∧ N e) ∨ ∃ v e, R = .ok (.ret v) e ∧ Q v e
section
variable {fns : List Fn} {W k : Nat} {C : Callee} {env env' : Env} {N M : Env → Prop} {Q : Vd → Env → Prop}
theorem Run2.mono {R : Res Flow} {Q' : Vd → Env → Prop} (h : Run2 R M Q) (h1 : ∀ e, M e → N e) (h2 : ∀ v e, Q v e → Q' v e) : Run2 R N Q' := by
  rcases h with ⟨e, a, b⟩ | ⟨v, e, a, b⟩
  · exact .inl ⟨e, a, h1 e b⟩
  · exact .inr ⟨v, e, a, h2 v e b⟩
theorem out_nil (h : N env) : Run2 (exSs C fns W [] env) N Q := .inl ⟨env, by rw [exs_nil], h⟩
theorem out_cons {s : S} {ss : List S} (h : Run2 (exS C fns W s env) M Q) (h2 : ∀ e, M e → Run2 (exSs C fns W ss e) N Q) : Run2 (exSs C fns W (s :: ss) env) N Q := by
  rw [exs_cons]
  rcases h with ⟨e, a, b⟩ | ⟨v, e, a, b⟩
  · rw [a]
    exact h2 e b
  · rw [a]
    exact .inr ⟨v, e, rfl, b⟩
theorem out_step {s : S} {ss : List S} (h : exS C fns W s env = .ok .next env') (h2 : Run2 (exSs C fns W ss env') N Q) : Run2 (exSs C fns W (s :: ss) env) N Q := by
  rw [exs_cons, h]
  exact h2
theorem out_one {s : S} (h : Run2 (exS C fns W s env) N Q) : Run2 (exSs C fns W [s] env) N Q := out_cons h fun e he => out_nil he
theorem out_ite {c : E} {a b : List S} {k : Bool} (hc : evE C fns c env = .ok (.fz (.bl k)) env') (ht : k = true → Run2 (exSs C fns W a env') N Q) (hf : k = false → Run2 (exSs C fns W b env') N Q) : Run2 (exS C fns W (.ite c a b) env) N Q := by
  rw [ex_ite, hc]
  cases k with
  | true => exact ht rfl
  | false => exact hf rfl
theorem out_ret {e : E} {ss : List S} {v : Vd} (h : evE C fns e env = .ok v env') (hq : Q v env') : Run2 (exSs C fns W (.ret (some e) :: ss) env) N Q := by
  refine .inr ⟨v, env', ?_, hq⟩
  refine exs_ret ?_
  rw [ex_ret, h]
  rfl
theorem out_forL {asg : D → Env → Res Unit} {body : Env → Res Flow} (P : Nat → Env → Prop) : ∀ (ds : List D) (i : Nat) (env : Env), P i env → (∀ (j : Nat) (d : D) (env : Env), ds[j]? = some d → P (i + j) env → ∃ e1, asg d env = .ok () e1 ∧ Run2 (body e1) (P (i + j + 1)) Q) →
    Run2 (forL asg body ds env) (P (i + ds.length)) Q
  | [], i, env, h, _ => .inl ⟨env, rfl, h⟩
  | d :: ds, i, env, h, st => by
    obtain ⟨e1, h1, h2⟩ := st 0 d env rfl h
    rcases h2 with ⟨e2, h2, h3⟩ | ⟨v, e2, h2, h3⟩
    · have r := out_forL P ds (i + 1) e2 h3 fun j d' env' hj hp => by
        have := st (j + 1) d' env' hj (by rw [← Nat.add_assoc, Nat.add_right_comm]; exact hp)
        rw [← Nat.add_assoc] at this
        rw [Nat.add_right_comm i 1 j]
        exact this
      rw [List.length_cons, Nat.add_comm ds.length 1, ← Nat.add_assoc]
      simp only [forL, h1, h2, bind_ok]
      exact r
    · refine .inr ⟨v, e2, ?_, h3⟩
      simp only [forL, h1, h2, bind_ok]
theorem out_for {e : E} {t : Tg} {body : List S} {v : Vd} {d : D} {l : List D} {env1 : Env} (P : Nat → Env → Prop) (he : evE C fns e env = .ok v env1) (ht : takeD v env1 = some (d, env')) (hd : seqD d = some l) (h0 : P 0 env')
    (hf : ∀ (j : Nat) (d : D) (env : Env), l[j]? = some d → P j env → ∃ e1, asT C fns t d env = .ok () e1 ∧ Run2 (exSs C fns W body e1) (P (j + 1)) Q) : Run2 (exS C fns W (.for t (.seq e) body) env) (P l.length) Q := by
  have r := out_forL (Q := Q) (asg := asT C fns t) (body := exSs C fns W body) P l 0 env' h0 fun j d env hj hp => by
    rw [Nat.zero_add] at hp ⊢
    exact hf j d env hj hp
  rw [Nat.zero_add] at r
  rw [ex_for, evIt_seq, he, bind_ok, seqV_eq, ht]
  simp only [hd, optR_some, bind_ok]
  exact r
theorem out_for_rng1 {e : E} {t : Tg} {body : List S} {h : Int} (P : Nat → Env → Prop) (he : evE C fns e env = .ok (.fz (.int h)) env') (g0 : 0 ≤ h) (g1 : h ≤ 1000000) (h0 : P 0 env')
    (hf : ∀ (j : Nat) (d : D) (env : Env), (rangeD 0 h.toNat)[j]? = some d → P j env → ∃ e1, asT C fns t d env = .ok () e1 ∧ Run2 (exSs C fns W body e1) (P (j + 1)) Q) : Run2 (exS C fns W (.for t (.rng1 e) body) env) (P (rangeD 0 h.toNat).length) Q := by
  have r := out_forL (Q := Q) (asg := asT C fns t) (body := exSs C fns W body) P (rangeD 0 h.toNat) 0 env' h0 fun j d env hj hp => by
    rw [Nat.zero_add] at hp ⊢
    exact hf j d env hj hp
  rw [Nat.zero_add] at r
  rw [ex_for, evIt_rng1_ok he g0 g1, bind_ok]
  exact r
theorem out_forK {t : Tg} {i : Nat} {f : Option Str} {body : List S} {l : List (List Key × D)} (P : Nat → Env → Prop) (hp : pthD env i f = some (.dt l)) (h0 : P 0 env)
    (hf : ∀ (j : Nat) (d : D) (env : Env), (l.map fun p => D.tup (p.1.map keyD1))[j]? = some d → P j env → ∃ e1, asT C fns t d env = .ok () e1 ∧ Run2 (exSs C fns W body e1) (P (j + 1)) Q) : Run2 (exS C fns W (.forK t i f body) env) (P l.length) Q := by
  have r := out_forL (Q := Q) (asg := asT C fns t) (body := exSs C fns W body) P (l.map fun p => D.tup (p.1.map keyD1)) 0 env h0 fun j d env hj hp => by
    rw [Nat.zero_add] at hp ⊢
    exact hf j d env hj hp
  rw [Nat.zero_add, List.length_map] at r
  rw [ex_forK, hp]
  rcases r with ⟨e, a, b⟩ | ⟨v, e, a, b⟩
  · exact .inl ⟨e, by simp only [a, noExc_ok], b⟩
  · exact .inr ⟨v, e, by simp only [a, noExc_ok], b⟩
/-- a while whose turns lessen a measure: J n env, n bounds the turns that are left -/
theorem out_whlL {c : Env → Res Bool} {body : Env → Res Flow} (J : Nat → Env → Prop) : ∀ (n : Nat) (env : Env), J n env → (∀ n env, J n env → (c env = .ok false env ∧ N env) ∨ (c env = .ok true env ∧ ∃ m, n = m + 1 ∧ Run2 (body env) (J m) Q)) → Run2 (whlL c body (n + 1) env) N Q
  | n, env, h, st => by
    rcases st n env h with ⟨h1, h2⟩ | ⟨h1, m, rfl, h2⟩
    · exact .inl ⟨env, whl_stop h1, h2⟩
    · rcases h2 with ⟨e, a, b⟩ | ⟨v, e, a, b⟩
      · rw [whl_step h1 a rfl]
        exact out_whlL J m e b st
      · refine .inr ⟨v, e, ?_, b⟩
        simp only [whlL, h1, bind_ok, if_true, a]
theorem whl_more {c : Env → Res Bool} {body : Env → Res Flow} : ∀ (n : Nat) (env : Env) {f : Flow} {e : Env}, whlL c body n env = .ok f e → whlL c body (n + 1) env = .ok f e
  | 0, env, f, e, h => by simp [whlL] at h
  | n + 1, env, f, e, h => by
    rw [whlL] at h ⊢
    cases hc : c env with
    | err => rw [hc] at h; exact nomatch h
    | exc x e' => rw [hc] at h; exact nomatch h
    | ok k e1 =>
      rw [hc] at h
      simp only [bind_ok] at h ⊢
      cases k with
      | false => exact h
      | true =>
        simp only [if_true] at h ⊢
        cases hb : body e1 with
        | err => rw [hb] at h; exact nomatch h
        | exc x e' => rw [hb] at h; exact nomatch h
        | ok g e2 =>
          rw [hb] at h
          simp only [bind_ok] at h ⊢
          cases g with
          | next => exact whl_more n e2 h
          | cont => exact whl_more n e2 h
          | brk => exact h
          | ret v => exact h
theorem whl_le {c : Env → Res Bool} {body : Env → Res Flow} {n m : Nat} {env : Env} {f : Flow} {e : Env} (hl : n ≤ m) (h : whlL c body n env = .ok f e) : whlL c body m env = .ok f e := by
  obtain ⟨d, rfl⟩ := Nat.exists_eq_add_of_le hl
  clear hl
  induction d with
  | zero => exact h
  | succ d ih => exact whl_more _ _ ih
theorem out_whl {c : E} {body : List S} (J : Nat → Env → Prop) (n : Nat) (hW : n + 1 ≤ W) (h0 : J n env) (st : ∀ n env, J n env → (evE C fns c env = .ok (.fz (.bl false)) env ∧ N env) ∨ (evE C fns c env = .ok (.fz (.bl true)) env ∧ ∃ m, n = m + 1 ∧ Run2 (exSs C fns W body env) (J m) Q)) : Run2 (exS C fns W (.whl c body) env) N Q := by
  have r := out_whlL (N := N) (Q := Q) (c := fun env => (evE C fns c env).bind fun x env => boolV x env) (body := exSs C fns W body) J n env h0 fun n env h => by
    rcases st n env h with ⟨h1, h2⟩ | ⟨h1, m, h2⟩
    · exact .inl ⟨by simp [h1], h2⟩
    · exact .inr ⟨by simp [h1], m, h2⟩
  rw [ex_whl]
  rcases r with ⟨e, a, b⟩ | ⟨v, e, a, b⟩
  · exact .inl ⟨e, whl_le hW a, b⟩
  · exact .inr ⟨v, e, whl_le hW a, b⟩
/-- a def's end -/
theorem callF_out {f : Nat} {fn : Fn} {ds : List D} {env0 : Env} {X : CRes → Prop} (h : fns[f]? = some fn) (hl : ds.length = fn.ps.length) (hs : start fn.modes fn.ns.length ds = env0)
    (hb : Run2 (exSs (callF fns W k) fns W fn.body env0) N Q) (hn : ∀ e, N e → X (finish fn.modes (.ok .next e))) (hq : ∀ v e, Q v e → X (finish fn.modes (.ok (.ret v) e))) : X (callF fns W (k + 1) f ds) := by
  rw [callF_at h, if_pos hl, hs]
  rcases hb with ⟨e, a, b⟩ | ⟨v, e, a, b⟩
  · rw [a]; exact hn e b
  · rw [a]; exact hq v e b
end
theorem callF_go {fns : List Fn} {W k f : Nat} {fn : Fn} {ds : List D} (h : fns[f]? = some fn) (hl : ds.length = fn.ps.length) : callF fns W (k + 1) f ds = finish fn.modes (exSs (callF fns W k) fns W fn.body (start fn.modes fn.ns.length ds)) := by
  rw [callF_at h, if_pos hl]
/-! one statement at a time -/
def wrapT (T : Env → Res Flow) (e : Env) : Res Flow := T e
def contT (T : Env → Res Flow) : Flow → Env → Res Flow
  | .next, e => wrapT T e
  | f, e => .ok f e
section
variable {fns : List Fn} {W : Nat} {C : Callee} {env : Env} {T : Env → Res Flow}
theorem wrapT_eq : wrapT T env = T env := rfl
@[simp] theorem contT_next : contT T .next env = wrapT T env := rfl
@[simp] theorem contT_ret {v : Vd} : contT T (.ret v) env = .ok (.ret v) env := rfl
@[simp] theorem contT_brk : contT T .brk env = .ok .brk env := rfl
@[simp] theorem contT_cont : contT T .cont env = .ok .cont env := rfl
theorem exs_T {s : S} {ss : List S} : exSs C fns W (s :: ss) env = (exS C fns W s env).bind (contT (exSs C fns W ss)) := by
  rw [exs_cons]
  congr 1
  funext f e
  cases f <;> rfl
@[simp] theorem dgetV_eq {a k : Vd} {dd : D} : dgetV a k (.fz dd) env = (match nowD env a, nowD env k with
    | some (.dt l), some (.tup ds) => (match keysD ds with
      | some kk => .ok (.fz ((kget l kk).getD dd)) env
      | none => .err)
    | _, _ => .err) := by
  unfold dgetV
  cases nowD env a with
  | none => rfl
  | some x => cases x <;> first | rfl | (cases nowD env k with
    | none => rfl
    | some y => cases y <;> rfl)
@[simp] theorem neEV_eq {a : Vd} : neEV a env = (match nowD env a with
    | some (.dt l) => .ok (.fz (.bl (!l.isEmpty))) env
    | _ => .err) := rfl
@[simp] theorem isDt_dt {l : List (List Key × D)} : isDt (some (.dt l)) = true := rfl
@[simp] theorem dct1V_eq {k v : Vd} : dct1V k v env = (match nowD env k with
    | some (.tup ds) => (match keysD ds with
      | some kk => (match takeD v env with
        | some (d, env) => .ok (.fr (.dt [(kk, d)])) env
        | none => .err)
      | none => .err)
    | _ => .err) := rfl
@[simp] theorem keysD_nil : keysD [] = some [] := rfl
@[simp] theorem keysD_int {i : Int} {ds : List D} : keysD (.int i :: ds) = (keysD ds).map (.inl i :: ·) := by
  show (match keyD (.int i), keysD ds with
    | some k, some ks => some (k :: ks)
    | _, _ => none) = _
  cases keysD ds <;> rfl
@[simp] theorem subPut_dt {l : List (List Key × D)} {ds : List D} {v : D} : subPut (.dt l) (.tup ds) v = (match keysD ds with
      | some k => if l.length < sizeLine then some (.dt (kput l k v)) else none
      | none => none) := rfl
@[simp] theorem idx_dt {l : List (List Key × D)} {ds : List D} : idxD (.dt l) (.tup ds) = (match keysD ds with
    | some k => kget l k
    | none => none) := rfl
@[simp] theorem in_dt {l : List (List Key × D)} {ds : List D} : inD (.tup ds) (.dt l) = (match keysD ds with
      | some k => some (kget l k).isSome
      | none => none) := rfl
end
end PB

/-! PDa -/
/-! PD, part A: comprehensions over tuples of any length; new objects. -/
namespace PB
open PySem L2
def setL : Env → List Nat → List D → Env
  | env, i :: is, d :: ds => setL (env.set i (.val d)) is ds
  | env, _, _ => env
section
variable {C : Callee} {fns : List Fn} {env env0 : Env} {c : Option E} {elt : E} {W : Nat}
theorem setL_len : ∀ (is : List Nat) (ds : List D) (env : Env), (setL env is ds).length = env.length
  | [], _, _ => rfl
  | _ :: _, [], _ => rfl
  | i :: is, d :: ds, env => by
    rw [setL, setL_len is ds]
    simp
theorem setL_out : ∀ (is : List Nat) (ds : List D) (env : Env) (j : Nat), j ∉ is → (setL env is ds)[j]? = env[j]?
  | [], _, _, _, _ => rfl
  | _ :: _, [], _, _, _ => rfl
  | i :: is, d :: ds, env, j, h => by
    rw [setL, setL_out is ds _ j (fun z => h (List.mem_cons_of_mem _ z))]
    exact List.getElem?_set_ne (fun z : i = j => h (by rw [z]; exact List.mem_cons_self))
theorem setL_congr : ∀ (is : List Nat) (ds : List D) (e1 e2 : Env), e1.length = e2.length → (∀ j, j ∉ is → e1[j]? = e2[j]?) → is.length = ds.length → setL e1 is ds = setL e2 is ds
  | [], _, e1, e2, hl, h, _ => by
    apply List.ext_getElem?
    intro j
    exact h j (fun z => nomatch z)
  | i :: is, [], _, _, _, _, hl => nomatch hl
  | i :: is, d :: ds, e1, e2, hl, h, hd => by
    refine setL_congr is ds _ _ (by simp [hl]) (fun j hj => ?_) (by simpa using hd)
    by_cases z : i = j
    · subst z
      by_cases q : i < e1.length
      · rw [List.getElem?_set_self q, List.getElem?_set_self (hl ▸ q)]
      · rw [List.getElem?_eq_none (by simp; omega), List.getElem?_eq_none (by simp; omega)]
    · rw [List.getElem?_set_ne z, List.getElem?_set_ne z]
      exact h j (fun y => (List.mem_cons.mp y).elim (fun y => z y.symm) hj)
theorem asTs_nms : ∀ (is : List Nat) (ds : List D) (env : Env), is.length = ds.length → (∀ i ∈ is, nrO env[i]? = true) → asTs C fns (is.map .nm) ds env = .ok () (setL env is ds)
  | [], [], env, _, _ => by simp [setL]
  | [], _ :: _, _, h, _ => nomatch h
  | _ :: _, [], _, h, _ => nomatch h
  | i :: is, d :: ds, env, h, hn => by
    rw [List.map_cons, asTs_cons, asT_nm, setV_eq, if_pos (hn i List.mem_cons_self)]
    simp only [bind_ok]
    rw [asTs_nms is ds _ (by simpa using h) (fun j hj => ?_), setL]
    by_cases z : i = j
    · subst z
      have := hn i List.mem_cons_self
      by_cases q : i < env.length
      · rw [List.getElem?_set_self q]
        rfl
      · rw [List.getElem?_eq_none (by omega)] at this
        exact nomatch this
    · rw [List.getElem?_set_ne z]
      exact hn j (List.mem_cons_of_mem _ hj)
theorem slots_nms : ∀ is : List Nat, Tg.slotss (is.map .nm) = is
  | [] => rfl
  | i :: is => by
    rw [List.map_cons, Tg.slotss, slots_nms is]
    rfl
theorem clear_len : ∀ (is : List Nat) (env : Env), (clear env is).length = env.length
  | [], _ => rfl
  | i :: is, env => by rw [clear, List.length_set, clear_len is]
theorem clr_out : ∀ (is : List Nat) (env : Env) (j : Nat), j ∉ is → (clear env is)[j]? = env[j]?
  | [], _, _, _ => rfl
  | i :: is, env, j, h => by
    rw [clear, List.getElem?_set_ne (fun z : i = j => h (by rw [z]; exact List.mem_cons_self)), clr_out is env j (fun z => h (List.mem_cons_of_mem _ z))]
theorem clr_in : ∀ (is : List Nat) (env : Env) (j : Nat), j ∈ is → j < env.length → (clear env is)[j]? = some .no
  | [], _, _, h, _ => nomatch h
  | i :: is, env, j, h, hl => by
    rw [clear]
    by_cases z : i = j
    · subst z
      rw [List.getElem?_set_self (by rw [clear_len]; exact hl)]
    · rw [List.getElem?_set_ne z]
      exact clr_in is env j ((List.mem_cons.mp h).resolve_left (fun y => z y.symm)) hl
def untup : D → List D
  | .tup l => l
  | _ => []
/-- [elt for x, y, .. in it if c] -/
theorem comp_tp {it : It} {ds : List (List D)} {is : List Nat} (p : List D → Bool) (g : List D → D) (hi : evIt C fns it env0 = .ok (ds.map .tup) env) (hli : ∀ i ∈ is, i < env.length) (hn : ∀ d ∈ ds, d.length = is.length)
    (h3 : ∀ d ∈ ds, evC C fns c (setL env is d) = .ok (p d) (setL env is d)) (h4 : ∀ d ∈ ds, p d = true → evE C fns elt (setL env is d) = .ok (.fz (g d)) (setL env is d)) (hl : ds.length ≤ sizeLine) :
    evE C fns (.comp elt (.tp (is.map .nm)) it c) env0 = .ok (.fr (.lst ((ds.filter p).map g))) env := by
  have e : ((ds.map D.tup).filter (fun d => p (untup d))).map (fun d => g (untup d)) = (ds.filter p).map g := by
    clear hi h3 h4 hl hn
    induction ds with
    | nil => rfl
    | cons q r ih =>
      rw [List.map_cons, List.filter_cons, List.filter_cons]
      show (if p q = true then _ else _ : List D).map _ = _
      split
      · rw [List.map_cons, List.map_cons, ih]
        rfl
      · exact ih
  rw [← e]
  have sl : (Tg.tp (is.map .nm)).slots = is := slots_nms is
  refine comp_pure (t := .tp (is.map .nm)) (fun d => setL env is (untup d)) (fun d => p (untup d)) (fun d => g (untup d)) hi (fun d hd e he => ?_) (fun d _ => ⟨setL_len _ _ _, fun x hx => ?_⟩) (fun d hd => ?_) (fun d hd hp => ?_) (by simpa using hl)
  · obtain ⟨q, hq, rfl⟩ := List.mem_map.mp hd
    rw [sl] at he ⊢
    have ln := hn q hq
    rw [asT_tp]
    simp only [List.length_map, ln, if_true]
    rw [asTs_nms is q _ ln.symm fun i hi => by rw [clr_in is e i hi (by rw [he.1]; exact hli i hi)]; rfl]
    show Res.ok () (setL (clear e is) is q) = .ok () (setL env is q)
    congr 1
    exact setL_congr is q _ _ (by rw [clear_len, he.1]) (fun j hj => by rw [clr_out is e j hj, he.2 j hj]) ln.symm
  · rw [sl] at hx
    exact setL_out _ _ _ _ hx
  · obtain ⟨q, hq, rfl⟩ := List.mem_map.mp hd
    exact h3 q hq
  · obtain ⟨q, hq, rfl⟩ := List.mem_map.mp hd
    exact h4 q hq hp
section
variable {t : Tg}
/-- a comprehension that changes nothing -/
theorem compL_pureF (A : D → Env) (p : D → Bool) (g : D → D) : ∀ (ds acc : List D) (e : Env), (∀ d ∈ ds, ∀ e, Agree t.slots e env → asT C fns t d (clear e t.slots) = .ok () (A d)) → (∀ d ∈ ds, Agree t.slots (A d) env) → (∀ d ∈ ds, evC C fns c (A d) = .ok (p d) (A d)) →
    (∀ d ∈ ds, p d = true → evE C fns elt (A d) = .ok (.fr (g d)) (A d)) → acc.length + ds.length ≤ sizeLine → Agree t.slots e env →
    ∃ e', compL (fun d e => asT C fns t d (clear e t.slots)) (evC C fns c) (evE C fns elt) ds acc e = .ok (acc ++ (ds.filter p).map g) e' ∧ Agree t.slots e' env
  | [], acc, e, _, _, _, _, _, h => ⟨e, by simp [compL], h⟩
  | d :: ds, acc, e, h1, h2, h3, h4, hl, h => by
    have a1 := h1 d List.mem_cons_self e h
    have a2 := h2 d List.mem_cons_self
    have a3 := h3 d List.mem_cons_self
    simp only [List.length_cons] at hl
    have rest := fun acc' (hl' : acc'.length + ds.length ≤ sizeLine) => compL_pureF A p g ds acc' (A d) (fun d hd => h1 d (List.mem_cons_of_mem _ hd)) (fun d hd => h2 d (List.mem_cons_of_mem _ hd)) (fun d hd => h3 d (List.mem_cons_of_mem _ hd)) (fun d hd => h4 d (List.mem_cons_of_mem _ hd)) hl' a2
    simp only [compL, a1, a3]
    cases q : p d with
    | false =>
      obtain ⟨e', r1, r2⟩ := rest acc (by omega)
      refine ⟨e', ?_, r2⟩
      rw [List.filter_cons, q]
      exact r1
    | true =>
      have a4 := h4 d List.mem_cons_self q
      obtain ⟨e', r1, r2⟩ := rest (acc ++ [g d]) (by simp; omega)
      refine ⟨e', ?_, r2⟩
      rw [List.filter_cons, q]
      simp only [a4, takeD_fr]
      rw [if_pos (by omega), r1]
      simp
theorem comp_pureF {it : It} {ds : List D} (A : D → Env) (p : D → Bool) (g : D → D) (hi : evIt C fns it env0 = .ok ds env) (h1 : ∀ d ∈ ds, ∀ e, Agree t.slots e env → asT C fns t d (clear e t.slots) = .ok () (A d)) (h2 : ∀ d ∈ ds, Agree t.slots (A d) env)
    (h3 : ∀ d ∈ ds, evC C fns c (A d) = .ok (p d) (A d)) (h4 : ∀ d ∈ ds, p d = true → evE C fns elt (A d) = .ok (.fr (g d)) (A d)) (hl : ds.length ≤ sizeLine) :
    evE C fns (.comp elt t it c) env0 = .ok (.fr (.lst ((ds.filter p).map g))) env := by
  obtain ⟨e', r1, r2⟩ := compL_pureF (t := t) (c := c) (elt := elt) A p g ds [] env h1 h2 h3 h4 (by simpa using hl) (Agree.refl _)
  rw [ev_comp, hi]
  simp only [bind_ok]
  rw [r1]
  simp [restore_agree r2]
/-- [elt for x in it if c], x one name -/
theorem comp_oneF {it : It} {ds : List D} {i : Nat} (p : D → Bool) (g : D → D) (hi : evIt C fns it env0 = .ok ds env) (hl0 : i < env.length) (h3 : ∀ d ∈ ds, evC C fns c (env.set i (.val d)) = .ok (p d) (env.set i (.val d)))
    (h4 : ∀ d ∈ ds, p d = true → evE C fns elt (env.set i (.val d)) = .ok (.fr (g d)) (env.set i (.val d))) (hl : ds.length ≤ sizeLine) : evE C fns (.comp elt (.nm i) it c) env0 = .ok (.fr (.lst ((ds.filter p).map g))) env := by
  refine comp_pureF (t := .nm i) (fun d => env.set i (.val d)) p g hi (fun d _ e he => ?_) (fun d _ => ⟨List.length_set .., fun j hj => List.getElem?_set_ne (by intro z; exact hj (by rw [z]; exact List.mem_singleton.mpr rfl))⟩) h3 h4 hl
  have he : Agree [i] e env := he
  have hl1 : i < (e.set i .no).length := by rw [List.length_set, he.1]; exact hl0
  show asT C fns (.nm i) d (e.set i .no) = _
  rw [asT_nm, setV_eq, List.getElem?_set_self (by rw [he.1]; exact hl0), if_pos (by rfl)]
  simp only
  rw [set_agree he]
end
theorem newV_at {f : Nat} {fn : Fn} {cl : Str} {vs : List Vd} (h : fns[f]? = some fn) (hc : fn.cls = some cl) (hn : fn.name = "__init__" ∧ fn.modes.head? = some true) : newV C fns f vs env = (match argsD (fn.modes.drop 1) vs env with
      | none => .err
      | some (ds, is, env) => match C f (.obj cl [] :: ds) with
        | .ret (.fz .non) (o :: outs) => (match outsD is outs env with
          | none => .err
          | some env => .ok (.fr o) env)
        | _ => .err) := by
  unfold newV
  rw [h]
  simp only [hc]
  rw [if_pos hn]
  try rfl
end
end PB
namespace PB
open PySem L2
section
variable {C : Callee} {fns : List Fn} {env env' : Env} {W : Nat}
theorem exs_app {R : Res Flow} : ∀ {a b : List S} {env : Env}, exSs C fns W a env = .ok .next env' → exSs C fns W b env' = R → exSs C fns W (a ++ b) env = R
  | [], b, env, h, hb => by
    rw [exs_nil] at h
    cases h
    exact hb
  | s :: a, b, env, h, hb => by
    rw [List.cons_append, exs_cons]
    rw [exs_cons] at h
    cases hs : exS C fns W s env with
    | err => rw [hs] at h; exact nomatch h
    | exc x e => rw [hs] at h; exact nomatch h
    | ok f e =>
      rw [hs] at h
      simp only [bind_ok] at h ⊢
      cases f with
      | next => exact exs_app (a := a) h hb
      | brk => exact nomatch h
      | cont => exact nomatch h
      | ret v => exact nomatch h
theorem blt_two {b : Blt} {x y : E} {dx dy : D} {r : Bool × D} (hx : evE C fns x env = .ok (.fz dx) env) (hy : evE C fns y env = .ok (.fz dy) env) (hb : bltD b [dx, dy] = some r) : evE C fns (.blt b [x, y]) env = .ok (vdR r) env := by
  simp [hx, hy, hb]
theorem blt_one {b : Blt} {x : E} {dx : D} {r : Bool × D} (hx : evE C fns x env = .ok (.fz dx) env) (hb : bltD b [dx] = some r) : evE C fns (.blt b [x]) env = .ok (vdR r) env := by
  simp [hx, hb]
/-- a call of a def without references -/
theorem call_ok {f : Nat} {fn : Fn} {es : List E} {vs : List Vd} {ds : List D} {env1 env2 : Env} {d : D} {rt : Rt} (h : fns[f]? = some fn) (he : evEs C fns es env = .ok vs env1) (ha : argsD fn.modes vs env1 = some (ds, [], env2)) (hc : C f ds = .ret rt []) (hr : rt = .fz d) : evE C fns (.call f es) env = .ok (.fz d) env2 := by
  rw [ev_call, he, bind_ok, callV_at h, ha]
  simp only [hc, hr, outsD_nil, rtV_fz]
end
end PB

/-! PXt -/
/-! PX, part T: errors in the evaluator, by simp. -/
namespace PB
open PySem
section
variable {C : Callee} {fns : List Fn} {W : Nat} {env : Env}
@[simp] theorem ev_newX (c f : Str) (a : E) : evE C fns (.newX c f a) env = (evE C fns a env).bind fun x env => newXV c f x env := by first | (rw [evE]; done) | (rw [evE]; rfl)
@[simp] theorem ev_isx (a : E) (t : Str) (yes no : List Str) : evE C fns (.isx a t yes no) env = (evE C fns a env).bind fun x env => isxV x yes no env := by first | (rw [evE]; done) | (rw [evE]; rfl)
@[simp] theorem ev_said (s j : Nat) (is : List Nat) : evE C fns (.said s j is) env = saidV C fns s j is env := by first | (rw [evE]; done) | (rw [evE]; rfl)
@[simp] theorem ev_lrep (es : List E) (k : E) : evE C fns (.lrep es k) env = (evEs C fns es env).bind fun xs env => (lstV xs env).bind fun r env => if isFrL r = true then (evE C fns k env).bind fun y env => lrepV r y env else .err := by first | (rw [evE]; done) | (rw [evE]; rfl)
@[simp] theorem ex_raise (c f : Str) (e : E) : exS C fns W (.raise c f e) env = (evE C fns e env).bind fun v env => (takeR v env).bind fun d env => .exc (.exc c [(f, d)]) env := by first | (rw [exS]; done) | (rw [exS]; rfl)
theorem newXV_at {c f : Str} {v : Vd} {d : D} {env' : Env} (h : takeD v env = some (d, env')) : newXV c f v env = .ok (.fz (.exc c [(f, d)])) env' := by
  unfold newXV
  rw [h]
@[simp] theorem newXV_fz {c f : Str} {d : D} : newXV c f (.fz d) env = .ok (.fz (.exc c [(f, d)])) env := rfl
@[simp] theorem newXV_fr {c f : Str} {d : D} : newXV c f (.fr d) env = .ok (.fz (.exc c [(f, d)])) env := rfl
@[simp] theorem isxV_fz {c : Str} {l : List (Str × D)} {yes no : List Str} : isxV (.fz (.exc c l)) yes no env = if yes.contains c = true then .ok (.fz (.bl true)) env else if no.contains c = true then .ok (.fz (.bl false)) env else .err := rfl
@[simp] theorem isFrL_lst {l : List D} : isFrL (.fr (.lst l)) = true := rfl
@[simp] theorem lrepV_eq {l : List D} {k : Int} : lrepV (.fr (.lst l)) (.fz (.int k)) env = if decide (0 ≤ k) && decide (k ≤ 1000) && decide (l.length ≤ 1000) then .ok (.fr (.lst (List.replicate k.toNat l).flatten)) env else .err := rfl
@[simp] theorem attV_exc {c : Str} {l : List (Str × D)} {f : Str} : attV (.fz (.exc c l)) f env = (match l.lookup f with
    | some d => .ok (.fz d) env
    | none => .err) := rfl
end
end PB

/-! K01a -/
/-! k01: errors made -/
namespace Law
open PySem PB L2
theorem n0 : fns[0]? = some beginFn := rfl
theorem n1 : fns[1]? = some (nextFn "_law_total" "_law_figure") := rfl
theorem n2 : fns[2]? = some f2 := rfl
theorem n3 : fns[3]? = some f3 := rfl
theorem n4 : fns[4]? = some f4 := rfl
theorem n5 : fns[5]? = some f5 := rfl
theorem n6 : fns[6]? = some f6 := rfl
theorem n7 : fns[7]? = some f7 := rfl
/-- all errors with one thing -/
def errsOf (d : D) : List D := [.exc "BadWorld" [("given", d)], .exc "BadStart" [("given", d)], .exc "BadBound" [("given", d)], .exc "BadStand" [("given", d)], .exc "BadRound" [("given", d)], .exc "BadRanges" [("given", d)], .exc "BadNumber" [("given", d)],
  .exc "BadRule" [("mode", d)], .exc "BadRun" [("number", d)], .exc "BadPaper" [("part", d)], .exc "BadRow" [("number", d)], .exc "BadText" [("line", d)], .exc "TooGreat" [("most", d)], .exc "NothingLeft" [("many", d)]]
variable (W k : Nat)
theorem s_pick {n : Nat} (hn : n < 1000000) {d : D} (hd : Dr n d) {l : List D} (h1 : l ≠ []) (h2 : l.length ≤ 1000) : ∃ y d', callF fns W (k + 2) 2 [d, .lst l] = .ret (.fz y) [d'] ∧ y ∈ l ∧ Dr (n + 1) d' := by
  have hp : 0 < l.length := List.length_pos_iff.mpr h1
  obtain ⟨r, d', q, r0, r1, hd'⟩ := next_spec (W := W) (k := k) n1 (by omega) hd (m := l.length) (by omega) (by omega)
  obtain ⟨y, e, m⟩ := atI_in (l := l) r0 r1
  refine ⟨y, d', ?_, m, hd'⟩
  simp [callF_at n2, f2, callV_at n1, nextFn, q, e, idxD]
theorem s_all (d : D) : callF fns W (k + 1) 3 [d] = .ret (.fr (.lst (errsOf d))) [] := by
  simp [callF_at n3, f3, errsOf, sizeLine]
theorem s_named (d : D) : callF fns W (k + 1) 4 [d] = .ret (.fr (.lst (errsOf d))) [] := by
  simp [callF_at n4, f4, errsOf, sizeLine]
end Law

/-! K01b -/
/-! k01: fields, kinds (printed by gen01.py) -/
namespace Law
open PySem PB L2
variable (W k : Nat)
theorem lk1 {f : Str} {d : D} : [(f, d)].lookup f = some d := by simp [List.lookup]
theorem s_fields (d : D) : callF fns W (k + 1) 5 [.lst (errsOf d)] = .ret (.fr (.lst (List.replicate 14 d))) [] := by
  have e0 : cutD (errsOf d) none (some 7) = [.exc "BadWorld" [("given", d)], .exc "BadStart" [("given", d)], .exc "BadBound" [("given", d)], .exc "BadStand" [("given", d)], .exc "BadRound" [("given", d)], .exc "BadRanges" [("given", d)], .exc "BadNumber" [("given", d)]] := rfl
  have a7 : atI (errsOf d) 7 = some (.exc "BadRule" [("mode", d)]) := rfl
  have a8 : atI (errsOf d) 8 = some (.exc "BadRun" [("number", d)]) := rfl
  have a9 : atI (errsOf d) 9 = some (.exc "BadPaper" [("part", d)]) := rfl
  have a10 : atI (errsOf d) 10 = some (.exc "BadRow" [("number", d)]) := rfl
  have a11 : atI (errsOf d) 11 = some (.exc "BadText" [("line", d)]) := rfl
  have a12 : atI (errsOf d) 12 = some (.exc "TooGreat" [("most", d)]) := rfl
  have a13 : atI (errsOf d) 13 = some (.exc "NothingLeft" [("many", d)]) := rfl
  generalize errsOf d = l at *
  have hr : List.replicate 14 d = [d, d, d, d, d, d, d, d, d, d, d, d, d, d] := rfl
  rw [hr]
  simp [callF_at n5, f5, sizeLine, compL, clear, restore, Tg.slots, e0, a7, a8, a9, a10, a11, a12, a13, idxD, lk1]
def bls (j : Nat) : List D := (List.range 14).map fun i => .bl (decide (i = j))
theorem kc (C : PB.Callee) (x : D) (j : Nat) (hj : j < 14) : evE C fns (.comp (.var 2) (.nm 2) (.rng1 (.lit (.int 14))) (some (.idx (.var 1) (.var 2)))) [.val x, .own (.lst (bls j)), .no] = .ok (.fr (.lst [.int j])) [.val x, .own (.lst (bls j)), .no] := by
  have hb : ∀ i : Nat, i < 14 → atI (bls j) (i : Int) = some (.bl (decide (i = j))) := fun i hi => by
    rw [PB.atI_nat (by simp [bls]; exact hi)]
    simp [bls]
  have key := comp_one (C := C) (fns := fns) (env0 := [.val x, .own (.lst (bls j)), .no]) (env := [.val x, .own (.lst (bls j)), .no]) (i := 2) (elt := .var 2) (c := some (.idx (.var 1) (.var 2))) (it := .rng1 (.lit (.int 14))) (ds := rangeD 0 14)
    (fun d => match d with
      | .int i => decide (i = (j : Int))
      | _ => false) (fun d => d) (by simp [rngOk]) (by simp) (fun d hd => ?_) (fun d hd _ => ?_) (by decide)
  · rw [key]
    have : ∀ j : Nat, j < 14 → ((rangeD 0 14).filter fun d => match d with
      | .int i => decide (i = (j : Int))
      | _ => false).map (fun d => d) = [.int j] := by
      intro j hj
      match j, hj with
      | 0, _ => rfl
      | 1, _ => rfl
      | 2, _ => rfl
      | 3, _ => rfl
      | 4, _ => rfl
      | 5, _ => rfl
      | 6, _ => rfl
      | 7, _ => rfl
      | 8, _ => rfl
      | 9, _ => rfl
      | 10, _ => rfl
      | 11, _ => rfl
      | 12, _ => rfl
      | 13, _ => rfl
    rw [this j hj]
  · obtain ⟨i, hi, rfl⟩ : ∃ i : Nat, i < 14 ∧ d = .int i := by
      have hd : d ∈ [.int 0, .int 1, .int 2, .int 3, .int 4, .int 5, .int 6, .int 7, .int 8, .int 9, .int 10, .int 11, .int 12, .int 13] := hd
      simp only [List.mem_cons, List.mem_nil_iff, or_false] at hd
      rcases hd with h | h | h | h | h | h | h | h | h | h | h | h | h | h
      · exact ⟨0, by decide, h⟩
      · exact ⟨1, by decide, h⟩
      · exact ⟨2, by decide, h⟩
      · exact ⟨3, by decide, h⟩
      · exact ⟨4, by decide, h⟩
      · exact ⟨5, by decide, h⟩
      · exact ⟨6, by decide, h⟩
      · exact ⟨7, by decide, h⟩
      · exact ⟨8, by decide, h⟩
      · exact ⟨9, by decide, h⟩
      · exact ⟨10, by decide, h⟩
      · exact ⟨11, by decide, h⟩
      · exact ⟨12, by decide, h⟩
      · exact ⟨13, by decide, h⟩
    have e : decide ((i : Int) = (j : Int)) = decide (i = j) := decide_eq_decide.mpr (by omega)
    simp [idxD, hb i hi, e]
  · simp
theorem kinds_end {x : D} {j : Int} {b : List D} (hk : exSs (callF fns W k) fns W (f6.body.take 7) [.val x, .no, .no] = .ok .next [.val x, .own (.lst b), .no])
    (hc : evE (callF fns W k) fns (.comp (.var 2) (.nm 2) (.rng1 (.lit (.int 14))) (some (.idx (.var 1) (.var 2)))) [.val x, .own (.lst b), .no] = .ok (.fr (.lst [.int j])) [.val x, .own (.lst b), .no]) : callF fns W (k + 1) 6 [x] = .ret (.fr (.lst [.int j])) [] := by
  refine callF_run (env0 := [.val x, .no, .no]) (v := .fr (.lst [.int j])) (env1 := [.val x, .own (.lst b), .no]) n6 rfl rfl ?_ rfl rfl
  have e : f6.body = f6.body.take 7 ++ f6.body.drop 7 := (List.take_append_drop 7 _).symm
  rw [e]
  refine exs_app hk ?_
  have e2 : f6.body.drop 7 = [.ret (some (.comp (.var 2) (.nm 2) (.rng1 (.lit (.int 14))) (some (.idx (.var 1) (.var 2)))))] := rfl
  rw [e2]
  refine exs_ret ?_
  rw [ex_ret, hc]
  rfl

theorem kb0 (C : PB.Callee) (d : D) : exSs C fns W (f6.body.take 7) [.val (.exc "BadWorld" [("given", d)]), .no, .no] = .ok .next [.val (.exc "BadWorld" [("given", d)]), .own (.lst (bls 0)), .no] := by
  have e : bls 0 = [.bl true, .bl false, .bl false, .bl false, .bl false, .bl false, .bl false, .bl false, .bl false, .bl false, .bl false, .bl false, .bl false, .bl false] := rfl
  rw [e]
  refine exs_seq (env' := [.val (.exc "BadWorld" [("given", d)]), .own (.lst [.bl true, .bl false]), .no]) (by simp (decide := true) [sizeLine]) ?_
  refine exs_seq (env' := [.val (.exc "BadWorld" [("given", d)]), .own (.lst [.bl true, .bl false, .bl false, .bl false]), .no]) (by simp (decide := true) [sizeLine]) ?_
  refine exs_seq (env' := [.val (.exc "BadWorld" [("given", d)]), .own (.lst [.bl true, .bl false, .bl false, .bl false, .bl false, .bl false]), .no]) (by simp (decide := true) [sizeLine]) ?_
  refine exs_seq (env' := [.val (.exc "BadWorld" [("given", d)]), .own (.lst [.bl true, .bl false, .bl false, .bl false, .bl false, .bl false, .bl false, .bl false]), .no]) (by simp (decide := true) [sizeLine]) ?_
  refine exs_seq (env' := [.val (.exc "BadWorld" [("given", d)]), .own (.lst [.bl true, .bl false, .bl false, .bl false, .bl false, .bl false, .bl false, .bl false, .bl false, .bl false]), .no]) (by simp (decide := true) [sizeLine]) ?_
  refine exs_seq (env' := [.val (.exc "BadWorld" [("given", d)]), .own (.lst [.bl true, .bl false, .bl false, .bl false, .bl false, .bl false, .bl false, .bl false, .bl false, .bl false, .bl false, .bl false]), .no]) (by simp (decide := true) [sizeLine]) ?_
  refine exs_seq (env' := [.val (.exc "BadWorld" [("given", d)]), .own (.lst [.bl true, .bl false, .bl false, .bl false, .bl false, .bl false, .bl false, .bl false, .bl false, .bl false, .bl false, .bl false, .bl false, .bl false]), .no]) (by simp (decide := true) [sizeLine]) ?_
  exact exs_nil
theorem s_kinds0 (d : D) : callF fns W (k + 1) 6 [.exc "BadWorld" [("given", d)]] = .ret (.fr (.lst [.int 0])) [] := by
  have hk := kb0 W (callF fns W k) d
  have hc := kc (callF fns W k) (.exc "BadWorld" [("given", d)]) 0 (by decide)
  exact kinds_end W k hk hc
theorem kb1 (C : PB.Callee) (d : D) : exSs C fns W (f6.body.take 7) [.val (.exc "BadStart" [("given", d)]), .no, .no] = .ok .next [.val (.exc "BadStart" [("given", d)]), .own (.lst (bls 1)), .no] := by
  have e : bls 1 = [.bl false, .bl true, .bl false, .bl false, .bl false, .bl false, .bl false, .bl false, .bl false, .bl false, .bl false, .bl false, .bl false, .bl false] := rfl
  rw [e]
  refine exs_seq (env' := [.val (.exc "BadStart" [("given", d)]), .own (.lst [.bl false, .bl true]), .no]) (by simp (decide := true) [sizeLine]) ?_
  refine exs_seq (env' := [.val (.exc "BadStart" [("given", d)]), .own (.lst [.bl false, .bl true, .bl false, .bl false]), .no]) (by simp (decide := true) [sizeLine]) ?_
  refine exs_seq (env' := [.val (.exc "BadStart" [("given", d)]), .own (.lst [.bl false, .bl true, .bl false, .bl false, .bl false, .bl false]), .no]) (by simp (decide := true) [sizeLine]) ?_
  refine exs_seq (env' := [.val (.exc "BadStart" [("given", d)]), .own (.lst [.bl false, .bl true, .bl false, .bl false, .bl false, .bl false, .bl false, .bl false]), .no]) (by simp (decide := true) [sizeLine]) ?_
  refine exs_seq (env' := [.val (.exc "BadStart" [("given", d)]), .own (.lst [.bl false, .bl true, .bl false, .bl false, .bl false, .bl false, .bl false, .bl false, .bl false, .bl false]), .no]) (by simp (decide := true) [sizeLine]) ?_
  refine exs_seq (env' := [.val (.exc "BadStart" [("given", d)]), .own (.lst [.bl false, .bl true, .bl false, .bl false, .bl false, .bl false, .bl false, .bl false, .bl false, .bl false, .bl false, .bl false]), .no]) (by simp (decide := true) [sizeLine]) ?_
  refine exs_seq (env' := [.val (.exc "BadStart" [("given", d)]), .own (.lst [.bl false, .bl true, .bl false, .bl false, .bl false, .bl false, .bl false, .bl false, .bl false, .bl false, .bl false, .bl false, .bl false, .bl false]), .no]) (by simp (decide := true) [sizeLine]) ?_
  exact exs_nil
theorem s_kinds1 (d : D) : callF fns W (k + 1) 6 [.exc "BadStart" [("given", d)]] = .ret (.fr (.lst [.int 1])) [] := by
  have hk := kb1 W (callF fns W k) d
  have hc := kc (callF fns W k) (.exc "BadStart" [("given", d)]) 1 (by decide)
  exact kinds_end W k hk hc
theorem kb2 (C : PB.Callee) (d : D) : exSs C fns W (f6.body.take 7) [.val (.exc "BadBound" [("given", d)]), .no, .no] = .ok .next [.val (.exc "BadBound" [("given", d)]), .own (.lst (bls 2)), .no] := by
  have e : bls 2 = [.bl false, .bl false, .bl true, .bl false, .bl false, .bl false, .bl false, .bl false, .bl false, .bl false, .bl false, .bl false, .bl false, .bl false] := rfl
  rw [e]
  refine exs_seq (env' := [.val (.exc "BadBound" [("given", d)]), .own (.lst [.bl false, .bl false]), .no]) (by simp (decide := true) [sizeLine]) ?_
  refine exs_seq (env' := [.val (.exc "BadBound" [("given", d)]), .own (.lst [.bl false, .bl false, .bl true, .bl false]), .no]) (by simp (decide := true) [sizeLine]) ?_
  refine exs_seq (env' := [.val (.exc "BadBound" [("given", d)]), .own (.lst [.bl false, .bl false, .bl true, .bl false, .bl false, .bl false]), .no]) (by simp (decide := true) [sizeLine]) ?_
  refine exs_seq (env' := [.val (.exc "BadBound" [("given", d)]), .own (.lst [.bl false, .bl false, .bl true, .bl false, .bl false, .bl false, .bl false, .bl false]), .no]) (by simp (decide := true) [sizeLine]) ?_
  refine exs_seq (env' := [.val (.exc "BadBound" [("given", d)]), .own (.lst [.bl false, .bl false, .bl true, .bl false, .bl false, .bl false, .bl false, .bl false, .bl false, .bl false]), .no]) (by simp (decide := true) [sizeLine]) ?_
  refine exs_seq (env' := [.val (.exc "BadBound" [("given", d)]), .own (.lst [.bl false, .bl false, .bl true, .bl false, .bl false, .bl false, .bl false, .bl false, .bl false, .bl false, .bl false, .bl false]), .no]) (by simp (decide := true) [sizeLine]) ?_
  refine exs_seq (env' := [.val (.exc "BadBound" [("given", d)]), .own (.lst [.bl false, .bl false, .bl true, .bl false, .bl false, .bl false, .bl false, .bl false, .bl false, .bl false, .bl false, .bl false, .bl false, .bl false]), .no]) (by simp (decide := true) [sizeLine]) ?_
  exact exs_nil
theorem s_kinds2 (d : D) : callF fns W (k + 1) 6 [.exc "BadBound" [("given", d)]] = .ret (.fr (.lst [.int 2])) [] := by
  have hk := kb2 W (callF fns W k) d
  have hc := kc (callF fns W k) (.exc "BadBound" [("given", d)]) 2 (by decide)
  exact kinds_end W k hk hc
theorem kb3 (C : PB.Callee) (d : D) : exSs C fns W (f6.body.take 7) [.val (.exc "BadStand" [("given", d)]), .no, .no] = .ok .next [.val (.exc "BadStand" [("given", d)]), .own (.lst (bls 3)), .no] := by
  have e : bls 3 = [.bl false, .bl false, .bl false, .bl true, .bl false, .bl false, .bl false, .bl false, .bl false, .bl false, .bl false, .bl false, .bl false, .bl false] := rfl
  rw [e]
  refine exs_seq (env' := [.val (.exc "BadStand" [("given", d)]), .own (.lst [.bl false, .bl false]), .no]) (by simp (decide := true) [sizeLine]) ?_
  refine exs_seq (env' := [.val (.exc "BadStand" [("given", d)]), .own (.lst [.bl false, .bl false, .bl false, .bl true]), .no]) (by simp (decide := true) [sizeLine]) ?_
  refine exs_seq (env' := [.val (.exc "BadStand" [("given", d)]), .own (.lst [.bl false, .bl false, .bl false, .bl true, .bl false, .bl false]), .no]) (by simp (decide := true) [sizeLine]) ?_
  refine exs_seq (env' := [.val (.exc "BadStand" [("given", d)]), .own (.lst [.bl false, .bl false, .bl false, .bl true, .bl false, .bl false, .bl false, .bl false]), .no]) (by simp (decide := true) [sizeLine]) ?_
  refine exs_seq (env' := [.val (.exc "BadStand" [("given", d)]), .own (.lst [.bl false, .bl false, .bl false, .bl true, .bl false, .bl false, .bl false, .bl false, .bl false, .bl false]), .no]) (by simp (decide := true) [sizeLine]) ?_
  refine exs_seq (env' := [.val (.exc "BadStand" [("given", d)]), .own (.lst [.bl false, .bl false, .bl false, .bl true, .bl false, .bl false, .bl false, .bl false, .bl false, .bl false, .bl false, .bl false]), .no]) (by simp (decide := true) [sizeLine]) ?_
  refine exs_seq (env' := [.val (.exc "BadStand" [("given", d)]), .own (.lst [.bl false, .bl false, .bl false, .bl true, .bl false, .bl false, .bl false, .bl false, .bl false, .bl false, .bl false, .bl false, .bl false, .bl false]), .no]) (by simp (decide := true) [sizeLine]) ?_
  exact exs_nil
theorem s_kinds3 (d : D) : callF fns W (k + 1) 6 [.exc "BadStand" [("given", d)]] = .ret (.fr (.lst [.int 3])) [] := by
  have hk := kb3 W (callF fns W k) d
  have hc := kc (callF fns W k) (.exc "BadStand" [("given", d)]) 3 (by decide)
  exact kinds_end W k hk hc
theorem kb4 (C : PB.Callee) (d : D) : exSs C fns W (f6.body.take 7) [.val (.exc "BadRound" [("given", d)]), .no, .no] = .ok .next [.val (.exc "BadRound" [("given", d)]), .own (.lst (bls 4)), .no] := by
  have e : bls 4 = [.bl false, .bl false, .bl false, .bl false, .bl true, .bl false, .bl false, .bl false, .bl false, .bl false, .bl false, .bl false, .bl false, .bl false] := rfl
  rw [e]
  refine exs_seq (env' := [.val (.exc "BadRound" [("given", d)]), .own (.lst [.bl false, .bl false]), .no]) (by simp (decide := true) [sizeLine]) ?_
  refine exs_seq (env' := [.val (.exc "BadRound" [("given", d)]), .own (.lst [.bl false, .bl false, .bl false, .bl false]), .no]) (by simp (decide := true) [sizeLine]) ?_
  refine exs_seq (env' := [.val (.exc "BadRound" [("given", d)]), .own (.lst [.bl false, .bl false, .bl false, .bl false, .bl true, .bl false]), .no]) (by simp (decide := true) [sizeLine]) ?_
  refine exs_seq (env' := [.val (.exc "BadRound" [("given", d)]), .own (.lst [.bl false, .bl false, .bl false, .bl false, .bl true, .bl false, .bl false, .bl false]), .no]) (by simp (decide := true) [sizeLine]) ?_
  refine exs_seq (env' := [.val (.exc "BadRound" [("given", d)]), .own (.lst [.bl false, .bl false, .bl false, .bl false, .bl true, .bl false, .bl false, .bl false, .bl false, .bl false]), .no]) (by simp (decide := true) [sizeLine]) ?_
  refine exs_seq (env' := [.val (.exc "BadRound" [("given", d)]), .own (.lst [.bl false, .bl false, .bl false, .bl false, .bl true, .bl false, .bl false, .bl false, .bl false, .bl false, .bl false, .bl false]), .no]) (by simp (decide := true) [sizeLine]) ?_
  refine exs_seq (env' := [.val (.exc "BadRound" [("given", d)]), .own (.lst [.bl false, .bl false, .bl false, .bl false, .bl true, .bl false, .bl false, .bl false, .bl false, .bl false, .bl false, .bl false, .bl false, .bl false]), .no]) (by simp (decide := true) [sizeLine]) ?_
  exact exs_nil
theorem s_kinds4 (d : D) : callF fns W (k + 1) 6 [.exc "BadRound" [("given", d)]] = .ret (.fr (.lst [.int 4])) [] := by
  have hk := kb4 W (callF fns W k) d
  have hc := kc (callF fns W k) (.exc "BadRound" [("given", d)]) 4 (by decide)
  exact kinds_end W k hk hc
theorem kb5 (C : PB.Callee) (d : D) : exSs C fns W (f6.body.take 7) [.val (.exc "BadRanges" [("given", d)]), .no, .no] = .ok .next [.val (.exc "BadRanges" [("given", d)]), .own (.lst (bls 5)), .no] := by
  have e : bls 5 = [.bl false, .bl false, .bl false, .bl false, .bl false, .bl true, .bl false, .bl false, .bl false, .bl false, .bl false, .bl false, .bl false, .bl false] := rfl
  rw [e]
  refine exs_seq (env' := [.val (.exc "BadRanges" [("given", d)]), .own (.lst [.bl false, .bl false]), .no]) (by simp (decide := true) [sizeLine]) ?_
  refine exs_seq (env' := [.val (.exc "BadRanges" [("given", d)]), .own (.lst [.bl false, .bl false, .bl false, .bl false]), .no]) (by simp (decide := true) [sizeLine]) ?_
  refine exs_seq (env' := [.val (.exc "BadRanges" [("given", d)]), .own (.lst [.bl false, .bl false, .bl false, .bl false, .bl false, .bl true]), .no]) (by simp (decide := true) [sizeLine]) ?_
  refine exs_seq (env' := [.val (.exc "BadRanges" [("given", d)]), .own (.lst [.bl false, .bl false, .bl false, .bl false, .bl false, .bl true, .bl false, .bl false]), .no]) (by simp (decide := true) [sizeLine]) ?_
  refine exs_seq (env' := [.val (.exc "BadRanges" [("given", d)]), .own (.lst [.bl false, .bl false, .bl false, .bl false, .bl false, .bl true, .bl false, .bl false, .bl false, .bl false]), .no]) (by simp (decide := true) [sizeLine]) ?_
  refine exs_seq (env' := [.val (.exc "BadRanges" [("given", d)]), .own (.lst [.bl false, .bl false, .bl false, .bl false, .bl false, .bl true, .bl false, .bl false, .bl false, .bl false, .bl false, .bl false]), .no]) (by simp (decide := true) [sizeLine]) ?_
  refine exs_seq (env' := [.val (.exc "BadRanges" [("given", d)]), .own (.lst [.bl false, .bl false, .bl false, .bl false, .bl false, .bl true, .bl false, .bl false, .bl false, .bl false, .bl false, .bl false, .bl false, .bl false]), .no]) (by simp (decide := true) [sizeLine]) ?_
  exact exs_nil
theorem s_kinds5 (d : D) : callF fns W (k + 1) 6 [.exc "BadRanges" [("given", d)]] = .ret (.fr (.lst [.int 5])) [] := by
  have hk := kb5 W (callF fns W k) d
  have hc := kc (callF fns W k) (.exc "BadRanges" [("given", d)]) 5 (by decide)
  exact kinds_end W k hk hc
theorem kb6 (C : PB.Callee) (d : D) : exSs C fns W (f6.body.take 7) [.val (.exc "BadNumber" [("given", d)]), .no, .no] = .ok .next [.val (.exc "BadNumber" [("given", d)]), .own (.lst (bls 6)), .no] := by
  have e : bls 6 = [.bl false, .bl false, .bl false, .bl false, .bl false, .bl false, .bl true, .bl false, .bl false, .bl false, .bl false, .bl false, .bl false, .bl false] := rfl
  rw [e]
  refine exs_seq (env' := [.val (.exc "BadNumber" [("given", d)]), .own (.lst [.bl false, .bl false]), .no]) (by simp (decide := true) [sizeLine]) ?_
  refine exs_seq (env' := [.val (.exc "BadNumber" [("given", d)]), .own (.lst [.bl false, .bl false, .bl false, .bl false]), .no]) (by simp (decide := true) [sizeLine]) ?_
  refine exs_seq (env' := [.val (.exc "BadNumber" [("given", d)]), .own (.lst [.bl false, .bl false, .bl false, .bl false, .bl false, .bl false]), .no]) (by simp (decide := true) [sizeLine]) ?_
  refine exs_seq (env' := [.val (.exc "BadNumber" [("given", d)]), .own (.lst [.bl false, .bl false, .bl false, .bl false, .bl false, .bl false, .bl true, .bl false]), .no]) (by simp (decide := true) [sizeLine]) ?_
  refine exs_seq (env' := [.val (.exc "BadNumber" [("given", d)]), .own (.lst [.bl false, .bl false, .bl false, .bl false, .bl false, .bl false, .bl true, .bl false, .bl false, .bl false]), .no]) (by simp (decide := true) [sizeLine]) ?_
  refine exs_seq (env' := [.val (.exc "BadNumber" [("given", d)]), .own (.lst [.bl false, .bl false, .bl false, .bl false, .bl false, .bl false, .bl true, .bl false, .bl false, .bl false, .bl false, .bl false]), .no]) (by simp (decide := true) [sizeLine]) ?_
  refine exs_seq (env' := [.val (.exc "BadNumber" [("given", d)]), .own (.lst [.bl false, .bl false, .bl false, .bl false, .bl false, .bl false, .bl true, .bl false, .bl false, .bl false, .bl false, .bl false, .bl false, .bl false]), .no]) (by simp (decide := true) [sizeLine]) ?_
  exact exs_nil
theorem s_kinds6 (d : D) : callF fns W (k + 1) 6 [.exc "BadNumber" [("given", d)]] = .ret (.fr (.lst [.int 6])) [] := by
  have hk := kb6 W (callF fns W k) d
  have hc := kc (callF fns W k) (.exc "BadNumber" [("given", d)]) 6 (by decide)
  exact kinds_end W k hk hc
theorem kb7 (C : PB.Callee) (d : D) : exSs C fns W (f6.body.take 7) [.val (.exc "BadRule" [("mode", d)]), .no, .no] = .ok .next [.val (.exc "BadRule" [("mode", d)]), .own (.lst (bls 7)), .no] := by
  have e : bls 7 = [.bl false, .bl false, .bl false, .bl false, .bl false, .bl false, .bl false, .bl true, .bl false, .bl false, .bl false, .bl false, .bl false, .bl false] := rfl
  rw [e]
  refine exs_seq (env' := [.val (.exc "BadRule" [("mode", d)]), .own (.lst [.bl false, .bl false]), .no]) (by simp (decide := true) [sizeLine]) ?_
  refine exs_seq (env' := [.val (.exc "BadRule" [("mode", d)]), .own (.lst [.bl false, .bl false, .bl false, .bl false]), .no]) (by simp (decide := true) [sizeLine]) ?_
  refine exs_seq (env' := [.val (.exc "BadRule" [("mode", d)]), .own (.lst [.bl false, .bl false, .bl false, .bl false, .bl false, .bl false]), .no]) (by simp (decide := true) [sizeLine]) ?_
  refine exs_seq (env' := [.val (.exc "BadRule" [("mode", d)]), .own (.lst [.bl false, .bl false, .bl false, .bl false, .bl false, .bl false, .bl false, .bl true]), .no]) (by simp (decide := true) [sizeLine]) ?_
  refine exs_seq (env' := [.val (.exc "BadRule" [("mode", d)]), .own (.lst [.bl false, .bl false, .bl false, .bl false, .bl false, .bl false, .bl false, .bl true, .bl false, .bl false]), .no]) (by simp (decide := true) [sizeLine]) ?_
  refine exs_seq (env' := [.val (.exc "BadRule" [("mode", d)]), .own (.lst [.bl false, .bl false, .bl false, .bl false, .bl false, .bl false, .bl false, .bl true, .bl false, .bl false, .bl false, .bl false]), .no]) (by simp (decide := true) [sizeLine]) ?_
  refine exs_seq (env' := [.val (.exc "BadRule" [("mode", d)]), .own (.lst [.bl false, .bl false, .bl false, .bl false, .bl false, .bl false, .bl false, .bl true, .bl false, .bl false, .bl false, .bl false, .bl false, .bl false]), .no]) (by simp (decide := true) [sizeLine]) ?_
  exact exs_nil
theorem s_kinds7 (d : D) : callF fns W (k + 1) 6 [.exc "BadRule" [("mode", d)]] = .ret (.fr (.lst [.int 7])) [] := by
  have hk := kb7 W (callF fns W k) d
  have hc := kc (callF fns W k) (.exc "BadRule" [("mode", d)]) 7 (by decide)
  exact kinds_end W k hk hc
theorem kb8 (C : PB.Callee) (d : D) : exSs C fns W (f6.body.take 7) [.val (.exc "BadRun" [("number", d)]), .no, .no] = .ok .next [.val (.exc "BadRun" [("number", d)]), .own (.lst (bls 8)), .no] := by
  have e : bls 8 = [.bl false, .bl false, .bl false, .bl false, .bl false, .bl false, .bl false, .bl false, .bl true, .bl false, .bl false, .bl false, .bl false, .bl false] := rfl
  rw [e]
  refine exs_seq (env' := [.val (.exc "BadRun" [("number", d)]), .own (.lst [.bl false, .bl false]), .no]) (by simp (decide := true) [sizeLine]) ?_
  refine exs_seq (env' := [.val (.exc "BadRun" [("number", d)]), .own (.lst [.bl false, .bl false, .bl false, .bl false]), .no]) (by simp (decide := true) [sizeLine]) ?_
  refine exs_seq (env' := [.val (.exc "BadRun" [("number", d)]), .own (.lst [.bl false, .bl false, .bl false, .bl false, .bl false, .bl false]), .no]) (by simp (decide := true) [sizeLine]) ?_
  refine exs_seq (env' := [.val (.exc "BadRun" [("number", d)]), .own (.lst [.bl false, .bl false, .bl false, .bl false, .bl false, .bl false, .bl false, .bl false]), .no]) (by simp (decide := true) [sizeLine]) ?_
  refine exs_seq (env' := [.val (.exc "BadRun" [("number", d)]), .own (.lst [.bl false, .bl false, .bl false, .bl false, .bl false, .bl false, .bl false, .bl false, .bl true, .bl false]), .no]) (by simp (decide := true) [sizeLine]) ?_
  refine exs_seq (env' := [.val (.exc "BadRun" [("number", d)]), .own (.lst [.bl false, .bl false, .bl false, .bl false, .bl false, .bl false, .bl false, .bl false, .bl true, .bl false, .bl false, .bl false]), .no]) (by simp (decide := true) [sizeLine]) ?_
  refine exs_seq (env' := [.val (.exc "BadRun" [("number", d)]), .own (.lst [.bl false, .bl false, .bl false, .bl false, .bl false, .bl false, .bl false, .bl false, .bl true, .bl false, .bl false, .bl false, .bl false, .bl false]), .no]) (by simp (decide := true) [sizeLine]) ?_
  exact exs_nil
theorem s_kinds8 (d : D) : callF fns W (k + 1) 6 [.exc "BadRun" [("number", d)]] = .ret (.fr (.lst [.int 8])) [] := by
  have hk := kb8 W (callF fns W k) d
  have hc := kc (callF fns W k) (.exc "BadRun" [("number", d)]) 8 (by decide)
  exact kinds_end W k hk hc
theorem kb9 (C : PB.Callee) (d : D) : exSs C fns W (f6.body.take 7) [.val (.exc "BadPaper" [("part", d)]), .no, .no] = .ok .next [.val (.exc "BadPaper" [("part", d)]), .own (.lst (bls 9)), .no] := by
  have e : bls 9 = [.bl false, .bl false, .bl false, .bl false, .bl false, .bl false, .bl false, .bl false, .bl false, .bl true, .bl false, .bl false, .bl false, .bl false] := rfl
  rw [e]
  refine exs_seq (env' := [.val (.exc "BadPaper" [("part", d)]), .own (.lst [.bl false, .bl false]), .no]) (by simp (decide := true) [sizeLine]) ?_
  refine exs_seq (env' := [.val (.exc "BadPaper" [("part", d)]), .own (.lst [.bl false, .bl false, .bl false, .bl false]), .no]) (by simp (decide := true) [sizeLine]) ?_
  refine exs_seq (env' := [.val (.exc "BadPaper" [("part", d)]), .own (.lst [.bl false, .bl false, .bl false, .bl false, .bl false, .bl false]), .no]) (by simp (decide := true) [sizeLine]) ?_
  refine exs_seq (env' := [.val (.exc "BadPaper" [("part", d)]), .own (.lst [.bl false, .bl false, .bl false, .bl false, .bl false, .bl false, .bl false, .bl false]), .no]) (by simp (decide := true) [sizeLine]) ?_
  refine exs_seq (env' := [.val (.exc "BadPaper" [("part", d)]), .own (.lst [.bl false, .bl false, .bl false, .bl false, .bl false, .bl false, .bl false, .bl false, .bl false, .bl true]), .no]) (by simp (decide := true) [sizeLine]) ?_
  refine exs_seq (env' := [.val (.exc "BadPaper" [("part", d)]), .own (.lst [.bl false, .bl false, .bl false, .bl false, .bl false, .bl false, .bl false, .bl false, .bl false, .bl true, .bl false, .bl false]), .no]) (by simp (decide := true) [sizeLine]) ?_
  refine exs_seq (env' := [.val (.exc "BadPaper" [("part", d)]), .own (.lst [.bl false, .bl false, .bl false, .bl false, .bl false, .bl false, .bl false, .bl false, .bl false, .bl true, .bl false, .bl false, .bl false, .bl false]), .no]) (by simp (decide := true) [sizeLine]) ?_
  exact exs_nil
theorem s_kinds9 (d : D) : callF fns W (k + 1) 6 [.exc "BadPaper" [("part", d)]] = .ret (.fr (.lst [.int 9])) [] := by
  have hk := kb9 W (callF fns W k) d
  have hc := kc (callF fns W k) (.exc "BadPaper" [("part", d)]) 9 (by decide)
  exact kinds_end W k hk hc
theorem kb10 (C : PB.Callee) (d : D) : exSs C fns W (f6.body.take 7) [.val (.exc "BadRow" [("number", d)]), .no, .no] = .ok .next [.val (.exc "BadRow" [("number", d)]), .own (.lst (bls 10)), .no] := by
  have e : bls 10 = [.bl false, .bl false, .bl false, .bl false, .bl false, .bl false, .bl false, .bl false, .bl false, .bl false, .bl true, .bl false, .bl false, .bl false] := rfl
  rw [e]
  refine exs_seq (env' := [.val (.exc "BadRow" [("number", d)]), .own (.lst [.bl false, .bl false]), .no]) (by simp (decide := true) [sizeLine]) ?_
  refine exs_seq (env' := [.val (.exc "BadRow" [("number", d)]), .own (.lst [.bl false, .bl false, .bl false, .bl false]), .no]) (by simp (decide := true) [sizeLine]) ?_
  refine exs_seq (env' := [.val (.exc "BadRow" [("number", d)]), .own (.lst [.bl false, .bl false, .bl false, .bl false, .bl false, .bl false]), .no]) (by simp (decide := true) [sizeLine]) ?_
  refine exs_seq (env' := [.val (.exc "BadRow" [("number", d)]), .own (.lst [.bl false, .bl false, .bl false, .bl false, .bl false, .bl false, .bl false, .bl false]), .no]) (by simp (decide := true) [sizeLine]) ?_
  refine exs_seq (env' := [.val (.exc "BadRow" [("number", d)]), .own (.lst [.bl false, .bl false, .bl false, .bl false, .bl false, .bl false, .bl false, .bl false, .bl false, .bl false]), .no]) (by simp (decide := true) [sizeLine]) ?_
  refine exs_seq (env' := [.val (.exc "BadRow" [("number", d)]), .own (.lst [.bl false, .bl false, .bl false, .bl false, .bl false, .bl false, .bl false, .bl false, .bl false, .bl false, .bl true, .bl false]), .no]) (by simp (decide := true) [sizeLine]) ?_
  refine exs_seq (env' := [.val (.exc "BadRow" [("number", d)]), .own (.lst [.bl false, .bl false, .bl false, .bl false, .bl false, .bl false, .bl false, .bl false, .bl false, .bl false, .bl true, .bl false, .bl false, .bl false]), .no]) (by simp (decide := true) [sizeLine]) ?_
  exact exs_nil
theorem s_kinds10 (d : D) : callF fns W (k + 1) 6 [.exc "BadRow" [("number", d)]] = .ret (.fr (.lst [.int 10])) [] := by
  have hk := kb10 W (callF fns W k) d
  have hc := kc (callF fns W k) (.exc "BadRow" [("number", d)]) 10 (by decide)
  exact kinds_end W k hk hc
theorem kb11 (C : PB.Callee) (d : D) : exSs C fns W (f6.body.take 7) [.val (.exc "BadText" [("line", d)]), .no, .no] = .ok .next [.val (.exc "BadText" [("line", d)]), .own (.lst (bls 11)), .no] := by
  have e : bls 11 = [.bl false, .bl false, .bl false, .bl false, .bl false, .bl false, .bl false, .bl false, .bl false, .bl false, .bl false, .bl true, .bl false, .bl false] := rfl
  rw [e]
  refine exs_seq (env' := [.val (.exc "BadText" [("line", d)]), .own (.lst [.bl false, .bl false]), .no]) (by simp (decide := true) [sizeLine]) ?_
  refine exs_seq (env' := [.val (.exc "BadText" [("line", d)]), .own (.lst [.bl false, .bl false, .bl false, .bl false]), .no]) (by simp (decide := true) [sizeLine]) ?_
  refine exs_seq (env' := [.val (.exc "BadText" [("line", d)]), .own (.lst [.bl false, .bl false, .bl false, .bl false, .bl false, .bl false]), .no]) (by simp (decide := true) [sizeLine]) ?_
  refine exs_seq (env' := [.val (.exc "BadText" [("line", d)]), .own (.lst [.bl false, .bl false, .bl false, .bl false, .bl false, .bl false, .bl false, .bl false]), .no]) (by simp (decide := true) [sizeLine]) ?_
  refine exs_seq (env' := [.val (.exc "BadText" [("line", d)]), .own (.lst [.bl false, .bl false, .bl false, .bl false, .bl false, .bl false, .bl false, .bl false, .bl false, .bl false]), .no]) (by simp (decide := true) [sizeLine]) ?_
  refine exs_seq (env' := [.val (.exc "BadText" [("line", d)]), .own (.lst [.bl false, .bl false, .bl false, .bl false, .bl false, .bl false, .bl false, .bl false, .bl false, .bl false, .bl false, .bl true]), .no]) (by simp (decide := true) [sizeLine]) ?_
  refine exs_seq (env' := [.val (.exc "BadText" [("line", d)]), .own (.lst [.bl false, .bl false, .bl false, .bl false, .bl false, .bl false, .bl false, .bl false, .bl false, .bl false, .bl false, .bl true, .bl false, .bl false]), .no]) (by simp (decide := true) [sizeLine]) ?_
  exact exs_nil
theorem s_kinds11 (d : D) : callF fns W (k + 1) 6 [.exc "BadText" [("line", d)]] = .ret (.fr (.lst [.int 11])) [] := by
  have hk := kb11 W (callF fns W k) d
  have hc := kc (callF fns W k) (.exc "BadText" [("line", d)]) 11 (by decide)
  exact kinds_end W k hk hc
theorem kb12 (C : PB.Callee) (d : D) : exSs C fns W (f6.body.take 7) [.val (.exc "TooGreat" [("most", d)]), .no, .no] = .ok .next [.val (.exc "TooGreat" [("most", d)]), .own (.lst (bls 12)), .no] := by
  have e : bls 12 = [.bl false, .bl false, .bl false, .bl false, .bl false, .bl false, .bl false, .bl false, .bl false, .bl false, .bl false, .bl false, .bl true, .bl false] := rfl
  rw [e]
  refine exs_seq (env' := [.val (.exc "TooGreat" [("most", d)]), .own (.lst [.bl false, .bl false]), .no]) (by simp (decide := true) [sizeLine]) ?_
  refine exs_seq (env' := [.val (.exc "TooGreat" [("most", d)]), .own (.lst [.bl false, .bl false, .bl false, .bl false]), .no]) (by simp (decide := true) [sizeLine]) ?_
  refine exs_seq (env' := [.val (.exc "TooGreat" [("most", d)]), .own (.lst [.bl false, .bl false, .bl false, .bl false, .bl false, .bl false]), .no]) (by simp (decide := true) [sizeLine]) ?_
  refine exs_seq (env' := [.val (.exc "TooGreat" [("most", d)]), .own (.lst [.bl false, .bl false, .bl false, .bl false, .bl false, .bl false, .bl false, .bl false]), .no]) (by simp (decide := true) [sizeLine]) ?_
  refine exs_seq (env' := [.val (.exc "TooGreat" [("most", d)]), .own (.lst [.bl false, .bl false, .bl false, .bl false, .bl false, .bl false, .bl false, .bl false, .bl false, .bl false]), .no]) (by simp (decide := true) [sizeLine]) ?_
  refine exs_seq (env' := [.val (.exc "TooGreat" [("most", d)]), .own (.lst [.bl false, .bl false, .bl false, .bl false, .bl false, .bl false, .bl false, .bl false, .bl false, .bl false, .bl false, .bl false]), .no]) (by simp (decide := true) [sizeLine]) ?_
  refine exs_seq (env' := [.val (.exc "TooGreat" [("most", d)]), .own (.lst [.bl false, .bl false, .bl false, .bl false, .bl false, .bl false, .bl false, .bl false, .bl false, .bl false, .bl false, .bl false, .bl true, .bl false]), .no]) (by simp (decide := true) [sizeLine]) ?_
  exact exs_nil
theorem s_kinds12 (d : D) : callF fns W (k + 1) 6 [.exc "TooGreat" [("most", d)]] = .ret (.fr (.lst [.int 12])) [] := by
  have hk := kb12 W (callF fns W k) d
  have hc := kc (callF fns W k) (.exc "TooGreat" [("most", d)]) 12 (by decide)
  exact kinds_end W k hk hc
theorem kb13 (C : PB.Callee) (d : D) : exSs C fns W (f6.body.take 7) [.val (.exc "NothingLeft" [("many", d)]), .no, .no] = .ok .next [.val (.exc "NothingLeft" [("many", d)]), .own (.lst (bls 13)), .no] := by
  have e : bls 13 = [.bl false, .bl false, .bl false, .bl false, .bl false, .bl false, .bl false, .bl false, .bl false, .bl false, .bl false, .bl false, .bl false, .bl true] := rfl
  rw [e]
  refine exs_seq (env' := [.val (.exc "NothingLeft" [("many", d)]), .own (.lst [.bl false, .bl false]), .no]) (by simp (decide := true) [sizeLine]) ?_
  refine exs_seq (env' := [.val (.exc "NothingLeft" [("many", d)]), .own (.lst [.bl false, .bl false, .bl false, .bl false]), .no]) (by simp (decide := true) [sizeLine]) ?_
  refine exs_seq (env' := [.val (.exc "NothingLeft" [("many", d)]), .own (.lst [.bl false, .bl false, .bl false, .bl false, .bl false, .bl false]), .no]) (by simp (decide := true) [sizeLine]) ?_
  refine exs_seq (env' := [.val (.exc "NothingLeft" [("many", d)]), .own (.lst [.bl false, .bl false, .bl false, .bl false, .bl false, .bl false, .bl false, .bl false]), .no]) (by simp (decide := true) [sizeLine]) ?_
  refine exs_seq (env' := [.val (.exc "NothingLeft" [("many", d)]), .own (.lst [.bl false, .bl false, .bl false, .bl false, .bl false, .bl false, .bl false, .bl false, .bl false, .bl false]), .no]) (by simp (decide := true) [sizeLine]) ?_
  refine exs_seq (env' := [.val (.exc "NothingLeft" [("many", d)]), .own (.lst [.bl false, .bl false, .bl false, .bl false, .bl false, .bl false, .bl false, .bl false, .bl false, .bl false, .bl false, .bl false]), .no]) (by simp (decide := true) [sizeLine]) ?_
  refine exs_seq (env' := [.val (.exc "NothingLeft" [("many", d)]), .own (.lst [.bl false, .bl false, .bl false, .bl false, .bl false, .bl false, .bl false, .bl false, .bl false, .bl false, .bl false, .bl false, .bl false, .bl true]), .no]) (by simp (decide := true) [sizeLine]) ?_
  exact exs_nil
theorem s_kinds13 (d : D) : callF fns W (k + 1) 6 [.exc "NothingLeft" [("many", d)]] = .ret (.fr (.lst [.int 13])) [] := by
  have hk := kb13 W (callF fns W k) d
  have hc := kc (callF fns W k) (.exc "NothingLeft" [("many", d)]) 13 (by decide)
  exact kinds_end W k hk hc
end Law

/-! K01c -/
/-! k01: the law (printed by gen01c.py) -/
namespace Law
open PySem PB L2
def bI : List S := [.asg (.nm 6) (.idx (.var 4) (.var 5)),
  .asg (.nm 7) (.lst [.isx (.var 6) "SetError" ["BadWorld", "BadRule", "BadStart", "BadBound", "BadStand", "BadRound", "BadRun", "BadRanges", "BadPaper", "BadRow", "BadText", "BadNumber"] ["TooGreat", "NothingLeft"], .isx (.var 6) "ValueError" ["BadWorld", "BadRule", "BadStart", "BadBound", "BadStand", "BadRound", "BadRun", "BadRanges", "BadPaper", "BadRow", "BadText", "BadNumber"] ["TooGreat", "NothingLeft"]]),
  .asg (.nm 7) (.bin .Add (.var 7) (.lst [.isx (.var 6) "OverflowError" ["TooGreat"] ["BadWorld", "BadRule", "BadStart", "BadBound", "BadStand", "BadRound", "BadRun", "BadRanges", "BadPaper", "BadRow", "BadText", "BadNumber", "NothingLeft"], .isx (.var 6) "RuntimeError" ["NothingLeft"] ["BadWorld", "BadRule", "BadStart", "BadBound", "BadStand", "BadRound", "BadRun", "BadRanges", "BadPaper", "BadRow", "BadText", "BadNumber", "TooGreat"]])),
  .ite (.or (.cmp .NotEq (.call 6 [.var 6]) (.lst [.var 5])) (.cmp .NotEq (.var 7) (.lst [.cmp .Lt (.var 5) (.lit (.int 12)), .cmp .Lt (.var 5) (.lit (.int 12)), .cmp .Eq (.var 5) (.lit (.int 12)), .cmp .Eq (.var 5) (.lit (.int 13))]))) [ .ret (some (.lit (.bl false)))] []]
def bM : List S := [.ite (.cmp .NotEq (.blt .repr [.call 5 [.var 4]]) (.blt .repr [.lrep [.var 3] (.lit (.int 14))])) [ .ret (some (.lit (.bl false)))] [], .for (.nm 5) (.rng1 (.lit (.int 14))) bI]
def bO : List S := [.asg (.nm 3) (.call 2 [.var 1, .lst [.lit .non, .lit (.int 5), .lit (.bl true), .lit (.str "a"), .tup [.lit (.int 1), .lit (.int 2)], .lst [], .dct [] [], .tup [.lit (.str "x"), .lst [.lit .non]], .neg (.lit (.int 1)), .bin .Pow (.lit (.int 10)) (.lit (.int 30))]]), .for (.nm 4) (.seq (.tup [.call 3 [.var 3], .call 4 [.var 3]])) bM]
theorem body7 : f7.body = [.asg (.nm 1) (.call 0 [.var 0]), .for (.nm 2) (.rng1 (.lit (.int 3))) bO, .ret (some (.lit (.bl true)))] := rfl
variable (W : Nat)
def told (j : Nat) : List D := [.bl (decide (j < 12)), .bl (decide (j < 12)), .bl (decide (j = 12)), .bl (decide (j = 13))]
theorem eqB (a b c e : Bool) : eqD (.lst [.bl a, .bl b, .bl c, .bl e]) (.lst [.bl a, .bl b, .bl c, .bl e]) = some true := by cases a <;> cases b <;> cases c <;> cases e <;> rfl

theorem tu0 (C : PB.Callee) (d y : D) (s0 s1 s2 s3 s6 s7 : Slot) (h6 : s6.nr = true) (h7 : s7.nr = true) {l : List D} (hl : atI l 0 = some (.exc "BadWorld" [("given", d)])) (hC : ∀ env, callV C fns 6 [.fz (.exc "BadWorld" [("given", d)])] env = .ok (.fr (.lst [.int 0])) env) :
    exSs C fns W bI [s0, s1, s2, s3, .val (.lst l), .val (.int 0), s6, s7] = .ok .next [s0, s1, s2, s3, .val (.lst l), .val (.int 0), .val (.exc "BadWorld" [("given", d)]), .own (.lst [.bl true, .bl true, .bl false, .bl false])] := by
  have q1 : eqD (.lst [.int 0]) (.lst [.int 0]) = some true := rfl
  have q2 := eqB true true false false
  refine exs_seq (env' := [s0, s1, s2, s3, .val (.lst l), .val (.int 0), .val (.exc "BadWorld" [("given", d)]), s7]) (by simp [hl, h6, idxD]) ?_
  refine exs_seq (env' := [s0, s1, s2, s3, .val (.lst l), .val (.int 0), .val (.exc "BadWorld" [("given", d)]), .own (.lst [.bl true, .bl true])]) (by simp (decide := true) [sizeLine, h7]) ?_
  refine exs_seq (env' := [s0, s1, s2, s3, .val (.lst l), .val (.int 0), .val (.exc "BadWorld" [("given", d)]), .own (.lst [.bl true, .bl true, .bl false, .bl false])]) (by simp (decide := true) [sizeLine]) ?_
  refine exs_seq (env' := [s0, s1, s2, s3, .val (.lst l), .val (.int 0), .val (.exc "BadWorld" [("given", d)]), .own (.lst [.bl true, .bl true, .bl false, .bl false])]) (by simp [hC, sizeLine, q1, q2, exs_nil]) ?_
  exact exs_nil
theorem tu1 (C : PB.Callee) (d y : D) (s0 s1 s2 s3 s6 s7 : Slot) (h6 : s6.nr = true) (h7 : s7.nr = true) {l : List D} (hl : atI l 1 = some (.exc "BadStart" [("given", d)])) (hC : ∀ env, callV C fns 6 [.fz (.exc "BadStart" [("given", d)])] env = .ok (.fr (.lst [.int 1])) env) :
    exSs C fns W bI [s0, s1, s2, s3, .val (.lst l), .val (.int 1), s6, s7] = .ok .next [s0, s1, s2, s3, .val (.lst l), .val (.int 1), .val (.exc "BadStart" [("given", d)]), .own (.lst [.bl true, .bl true, .bl false, .bl false])] := by
  have q1 : eqD (.lst [.int 1]) (.lst [.int 1]) = some true := rfl
  have q2 := eqB true true false false
  refine exs_seq (env' := [s0, s1, s2, s3, .val (.lst l), .val (.int 1), .val (.exc "BadStart" [("given", d)]), s7]) (by simp [hl, h6, idxD]) ?_
  refine exs_seq (env' := [s0, s1, s2, s3, .val (.lst l), .val (.int 1), .val (.exc "BadStart" [("given", d)]), .own (.lst [.bl true, .bl true])]) (by simp (decide := true) [sizeLine, h7]) ?_
  refine exs_seq (env' := [s0, s1, s2, s3, .val (.lst l), .val (.int 1), .val (.exc "BadStart" [("given", d)]), .own (.lst [.bl true, .bl true, .bl false, .bl false])]) (by simp (decide := true) [sizeLine]) ?_
  refine exs_seq (env' := [s0, s1, s2, s3, .val (.lst l), .val (.int 1), .val (.exc "BadStart" [("given", d)]), .own (.lst [.bl true, .bl true, .bl false, .bl false])]) (by simp [hC, sizeLine, q1, q2, exs_nil]) ?_
  exact exs_nil
theorem tu2 (C : PB.Callee) (d y : D) (s0 s1 s2 s3 s6 s7 : Slot) (h6 : s6.nr = true) (h7 : s7.nr = true) {l : List D} (hl : atI l 2 = some (.exc "BadBound" [("given", d)])) (hC : ∀ env, callV C fns 6 [.fz (.exc "BadBound" [("given", d)])] env = .ok (.fr (.lst [.int 2])) env) :
    exSs C fns W bI [s0, s1, s2, s3, .val (.lst l), .val (.int 2), s6, s7] = .ok .next [s0, s1, s2, s3, .val (.lst l), .val (.int 2), .val (.exc "BadBound" [("given", d)]), .own (.lst [.bl true, .bl true, .bl false, .bl false])] := by
  have q1 : eqD (.lst [.int 2]) (.lst [.int 2]) = some true := rfl
  have q2 := eqB true true false false
  refine exs_seq (env' := [s0, s1, s2, s3, .val (.lst l), .val (.int 2), .val (.exc "BadBound" [("given", d)]), s7]) (by simp [hl, h6, idxD]) ?_
  refine exs_seq (env' := [s0, s1, s2, s3, .val (.lst l), .val (.int 2), .val (.exc "BadBound" [("given", d)]), .own (.lst [.bl true, .bl true])]) (by simp (decide := true) [sizeLine, h7]) ?_
  refine exs_seq (env' := [s0, s1, s2, s3, .val (.lst l), .val (.int 2), .val (.exc "BadBound" [("given", d)]), .own (.lst [.bl true, .bl true, .bl false, .bl false])]) (by simp (decide := true) [sizeLine]) ?_
  refine exs_seq (env' := [s0, s1, s2, s3, .val (.lst l), .val (.int 2), .val (.exc "BadBound" [("given", d)]), .own (.lst [.bl true, .bl true, .bl false, .bl false])]) (by simp [hC, sizeLine, q1, q2, exs_nil]) ?_
  exact exs_nil
theorem tu3 (C : PB.Callee) (d y : D) (s0 s1 s2 s3 s6 s7 : Slot) (h6 : s6.nr = true) (h7 : s7.nr = true) {l : List D} (hl : atI l 3 = some (.exc "BadStand" [("given", d)])) (hC : ∀ env, callV C fns 6 [.fz (.exc "BadStand" [("given", d)])] env = .ok (.fr (.lst [.int 3])) env) :
    exSs C fns W bI [s0, s1, s2, s3, .val (.lst l), .val (.int 3), s6, s7] = .ok .next [s0, s1, s2, s3, .val (.lst l), .val (.int 3), .val (.exc "BadStand" [("given", d)]), .own (.lst [.bl true, .bl true, .bl false, .bl false])] := by
  have q1 : eqD (.lst [.int 3]) (.lst [.int 3]) = some true := rfl
  have q2 := eqB true true false false
  refine exs_seq (env' := [s0, s1, s2, s3, .val (.lst l), .val (.int 3), .val (.exc "BadStand" [("given", d)]), s7]) (by simp [hl, h6, idxD]) ?_
  refine exs_seq (env' := [s0, s1, s2, s3, .val (.lst l), .val (.int 3), .val (.exc "BadStand" [("given", d)]), .own (.lst [.bl true, .bl true])]) (by simp (decide := true) [sizeLine, h7]) ?_
  refine exs_seq (env' := [s0, s1, s2, s3, .val (.lst l), .val (.int 3), .val (.exc "BadStand" [("given", d)]), .own (.lst [.bl true, .bl true, .bl false, .bl false])]) (by simp (decide := true) [sizeLine]) ?_
  refine exs_seq (env' := [s0, s1, s2, s3, .val (.lst l), .val (.int 3), .val (.exc "BadStand" [("given", d)]), .own (.lst [.bl true, .bl true, .bl false, .bl false])]) (by simp [hC, sizeLine, q1, q2, exs_nil]) ?_
  exact exs_nil
theorem tu4 (C : PB.Callee) (d y : D) (s0 s1 s2 s3 s6 s7 : Slot) (h6 : s6.nr = true) (h7 : s7.nr = true) {l : List D} (hl : atI l 4 = some (.exc "BadRound" [("given", d)])) (hC : ∀ env, callV C fns 6 [.fz (.exc "BadRound" [("given", d)])] env = .ok (.fr (.lst [.int 4])) env) :
    exSs C fns W bI [s0, s1, s2, s3, .val (.lst l), .val (.int 4), s6, s7] = .ok .next [s0, s1, s2, s3, .val (.lst l), .val (.int 4), .val (.exc "BadRound" [("given", d)]), .own (.lst [.bl true, .bl true, .bl false, .bl false])] := by
  have q1 : eqD (.lst [.int 4]) (.lst [.int 4]) = some true := rfl
  have q2 := eqB true true false false
  refine exs_seq (env' := [s0, s1, s2, s3, .val (.lst l), .val (.int 4), .val (.exc "BadRound" [("given", d)]), s7]) (by simp [hl, h6, idxD]) ?_
  refine exs_seq (env' := [s0, s1, s2, s3, .val (.lst l), .val (.int 4), .val (.exc "BadRound" [("given", d)]), .own (.lst [.bl true, .bl true])]) (by simp (decide := true) [sizeLine, h7]) ?_
  refine exs_seq (env' := [s0, s1, s2, s3, .val (.lst l), .val (.int 4), .val (.exc "BadRound" [("given", d)]), .own (.lst [.bl true, .bl true, .bl false, .bl false])]) (by simp (decide := true) [sizeLine]) ?_
  refine exs_seq (env' := [s0, s1, s2, s3, .val (.lst l), .val (.int 4), .val (.exc "BadRound" [("given", d)]), .own (.lst [.bl true, .bl true, .bl false, .bl false])]) (by simp [hC, sizeLine, q1, q2, exs_nil]) ?_
  exact exs_nil
theorem tu5 (C : PB.Callee) (d y : D) (s0 s1 s2 s3 s6 s7 : Slot) (h6 : s6.nr = true) (h7 : s7.nr = true) {l : List D} (hl : atI l 5 = some (.exc "BadRanges" [("given", d)])) (hC : ∀ env, callV C fns 6 [.fz (.exc "BadRanges" [("given", d)])] env = .ok (.fr (.lst [.int 5])) env) :
    exSs C fns W bI [s0, s1, s2, s3, .val (.lst l), .val (.int 5), s6, s7] = .ok .next [s0, s1, s2, s3, .val (.lst l), .val (.int 5), .val (.exc "BadRanges" [("given", d)]), .own (.lst [.bl true, .bl true, .bl false, .bl false])] := by
  have q1 : eqD (.lst [.int 5]) (.lst [.int 5]) = some true := rfl
  have q2 := eqB true true false false
  refine exs_seq (env' := [s0, s1, s2, s3, .val (.lst l), .val (.int 5), .val (.exc "BadRanges" [("given", d)]), s7]) (by simp [hl, h6, idxD]) ?_
  refine exs_seq (env' := [s0, s1, s2, s3, .val (.lst l), .val (.int 5), .val (.exc "BadRanges" [("given", d)]), .own (.lst [.bl true, .bl true])]) (by simp (decide := true) [sizeLine, h7]) ?_
  refine exs_seq (env' := [s0, s1, s2, s3, .val (.lst l), .val (.int 5), .val (.exc "BadRanges" [("given", d)]), .own (.lst [.bl true, .bl true, .bl false, .bl false])]) (by simp (decide := true) [sizeLine]) ?_
  refine exs_seq (env' := [s0, s1, s2, s3, .val (.lst l), .val (.int 5), .val (.exc "BadRanges" [("given", d)]), .own (.lst [.bl true, .bl true, .bl false, .bl false])]) (by simp [hC, sizeLine, q1, q2, exs_nil]) ?_
  exact exs_nil
theorem tu6 (C : PB.Callee) (d y : D) (s0 s1 s2 s3 s6 s7 : Slot) (h6 : s6.nr = true) (h7 : s7.nr = true) {l : List D} (hl : atI l 6 = some (.exc "BadNumber" [("given", d)])) (hC : ∀ env, callV C fns 6 [.fz (.exc "BadNumber" [("given", d)])] env = .ok (.fr (.lst [.int 6])) env) :
    exSs C fns W bI [s0, s1, s2, s3, .val (.lst l), .val (.int 6), s6, s7] = .ok .next [s0, s1, s2, s3, .val (.lst l), .val (.int 6), .val (.exc "BadNumber" [("given", d)]), .own (.lst [.bl true, .bl true, .bl false, .bl false])] := by
  have q1 : eqD (.lst [.int 6]) (.lst [.int 6]) = some true := rfl
  have q2 := eqB true true false false
  refine exs_seq (env' := [s0, s1, s2, s3, .val (.lst l), .val (.int 6), .val (.exc "BadNumber" [("given", d)]), s7]) (by simp [hl, h6, idxD]) ?_
  refine exs_seq (env' := [s0, s1, s2, s3, .val (.lst l), .val (.int 6), .val (.exc "BadNumber" [("given", d)]), .own (.lst [.bl true, .bl true])]) (by simp (decide := true) [sizeLine, h7]) ?_
  refine exs_seq (env' := [s0, s1, s2, s3, .val (.lst l), .val (.int 6), .val (.exc "BadNumber" [("given", d)]), .own (.lst [.bl true, .bl true, .bl false, .bl false])]) (by simp (decide := true) [sizeLine]) ?_
  refine exs_seq (env' := [s0, s1, s2, s3, .val (.lst l), .val (.int 6), .val (.exc "BadNumber" [("given", d)]), .own (.lst [.bl true, .bl true, .bl false, .bl false])]) (by simp [hC, sizeLine, q1, q2, exs_nil]) ?_
  exact exs_nil
theorem tu7 (C : PB.Callee) (d y : D) (s0 s1 s2 s3 s6 s7 : Slot) (h6 : s6.nr = true) (h7 : s7.nr = true) {l : List D} (hl : atI l 7 = some (.exc "BadRule" [("mode", d)])) (hC : ∀ env, callV C fns 6 [.fz (.exc "BadRule" [("mode", d)])] env = .ok (.fr (.lst [.int 7])) env) :
    exSs C fns W bI [s0, s1, s2, s3, .val (.lst l), .val (.int 7), s6, s7] = .ok .next [s0, s1, s2, s3, .val (.lst l), .val (.int 7), .val (.exc "BadRule" [("mode", d)]), .own (.lst [.bl true, .bl true, .bl false, .bl false])] := by
  have q1 : eqD (.lst [.int 7]) (.lst [.int 7]) = some true := rfl
  have q2 := eqB true true false false
  refine exs_seq (env' := [s0, s1, s2, s3, .val (.lst l), .val (.int 7), .val (.exc "BadRule" [("mode", d)]), s7]) (by simp [hl, h6, idxD]) ?_
  refine exs_seq (env' := [s0, s1, s2, s3, .val (.lst l), .val (.int 7), .val (.exc "BadRule" [("mode", d)]), .own (.lst [.bl true, .bl true])]) (by simp (decide := true) [sizeLine, h7]) ?_
  refine exs_seq (env' := [s0, s1, s2, s3, .val (.lst l), .val (.int 7), .val (.exc "BadRule" [("mode", d)]), .own (.lst [.bl true, .bl true, .bl false, .bl false])]) (by simp (decide := true) [sizeLine]) ?_
  refine exs_seq (env' := [s0, s1, s2, s3, .val (.lst l), .val (.int 7), .val (.exc "BadRule" [("mode", d)]), .own (.lst [.bl true, .bl true, .bl false, .bl false])]) (by simp [hC, sizeLine, q1, q2, exs_nil]) ?_
  exact exs_nil
theorem tu8 (C : PB.Callee) (d y : D) (s0 s1 s2 s3 s6 s7 : Slot) (h6 : s6.nr = true) (h7 : s7.nr = true) {l : List D} (hl : atI l 8 = some (.exc "BadRun" [("number", d)])) (hC : ∀ env, callV C fns 6 [.fz (.exc "BadRun" [("number", d)])] env = .ok (.fr (.lst [.int 8])) env) :
    exSs C fns W bI [s0, s1, s2, s3, .val (.lst l), .val (.int 8), s6, s7] = .ok .next [s0, s1, s2, s3, .val (.lst l), .val (.int 8), .val (.exc "BadRun" [("number", d)]), .own (.lst [.bl true, .bl true, .bl false, .bl false])] := by
  have q1 : eqD (.lst [.int 8]) (.lst [.int 8]) = some true := rfl
  have q2 := eqB true true false false
  refine exs_seq (env' := [s0, s1, s2, s3, .val (.lst l), .val (.int 8), .val (.exc "BadRun" [("number", d)]), s7]) (by simp [hl, h6, idxD]) ?_
  refine exs_seq (env' := [s0, s1, s2, s3, .val (.lst l), .val (.int 8), .val (.exc "BadRun" [("number", d)]), .own (.lst [.bl true, .bl true])]) (by simp (decide := true) [sizeLine, h7]) ?_
  refine exs_seq (env' := [s0, s1, s2, s3, .val (.lst l), .val (.int 8), .val (.exc "BadRun" [("number", d)]), .own (.lst [.bl true, .bl true, .bl false, .bl false])]) (by simp (decide := true) [sizeLine]) ?_
  refine exs_seq (env' := [s0, s1, s2, s3, .val (.lst l), .val (.int 8), .val (.exc "BadRun" [("number", d)]), .own (.lst [.bl true, .bl true, .bl false, .bl false])]) (by simp [hC, sizeLine, q1, q2, exs_nil]) ?_
  exact exs_nil
theorem tu9 (C : PB.Callee) (d y : D) (s0 s1 s2 s3 s6 s7 : Slot) (h6 : s6.nr = true) (h7 : s7.nr = true) {l : List D} (hl : atI l 9 = some (.exc "BadPaper" [("part", d)])) (hC : ∀ env, callV C fns 6 [.fz (.exc "BadPaper" [("part", d)])] env = .ok (.fr (.lst [.int 9])) env) :
    exSs C fns W bI [s0, s1, s2, s3, .val (.lst l), .val (.int 9), s6, s7] = .ok .next [s0, s1, s2, s3, .val (.lst l), .val (.int 9), .val (.exc "BadPaper" [("part", d)]), .own (.lst [.bl true, .bl true, .bl false, .bl false])] := by
  have q1 : eqD (.lst [.int 9]) (.lst [.int 9]) = some true := rfl
  have q2 := eqB true true false false
  refine exs_seq (env' := [s0, s1, s2, s3, .val (.lst l), .val (.int 9), .val (.exc "BadPaper" [("part", d)]), s7]) (by simp [hl, h6, idxD]) ?_
  refine exs_seq (env' := [s0, s1, s2, s3, .val (.lst l), .val (.int 9), .val (.exc "BadPaper" [("part", d)]), .own (.lst [.bl true, .bl true])]) (by simp (decide := true) [sizeLine, h7]) ?_
  refine exs_seq (env' := [s0, s1, s2, s3, .val (.lst l), .val (.int 9), .val (.exc "BadPaper" [("part", d)]), .own (.lst [.bl true, .bl true, .bl false, .bl false])]) (by simp (decide := true) [sizeLine]) ?_
  refine exs_seq (env' := [s0, s1, s2, s3, .val (.lst l), .val (.int 9), .val (.exc "BadPaper" [("part", d)]), .own (.lst [.bl true, .bl true, .bl false, .bl false])]) (by simp [hC, sizeLine, q1, q2, exs_nil]) ?_
  exact exs_nil
theorem tu10 (C : PB.Callee) (d y : D) (s0 s1 s2 s3 s6 s7 : Slot) (h6 : s6.nr = true) (h7 : s7.nr = true) {l : List D} (hl : atI l 10 = some (.exc "BadRow" [("number", d)])) (hC : ∀ env, callV C fns 6 [.fz (.exc "BadRow" [("number", d)])] env = .ok (.fr (.lst [.int 10])) env) :
    exSs C fns W bI [s0, s1, s2, s3, .val (.lst l), .val (.int 10), s6, s7] = .ok .next [s0, s1, s2, s3, .val (.lst l), .val (.int 10), .val (.exc "BadRow" [("number", d)]), .own (.lst [.bl true, .bl true, .bl false, .bl false])] := by
  have q1 : eqD (.lst [.int 10]) (.lst [.int 10]) = some true := rfl
  have q2 := eqB true true false false
  refine exs_seq (env' := [s0, s1, s2, s3, .val (.lst l), .val (.int 10), .val (.exc "BadRow" [("number", d)]), s7]) (by simp [hl, h6, idxD]) ?_
  refine exs_seq (env' := [s0, s1, s2, s3, .val (.lst l), .val (.int 10), .val (.exc "BadRow" [("number", d)]), .own (.lst [.bl true, .bl true])]) (by simp (decide := true) [sizeLine, h7]) ?_
  refine exs_seq (env' := [s0, s1, s2, s3, .val (.lst l), .val (.int 10), .val (.exc "BadRow" [("number", d)]), .own (.lst [.bl true, .bl true, .bl false, .bl false])]) (by simp (decide := true) [sizeLine]) ?_
  refine exs_seq (env' := [s0, s1, s2, s3, .val (.lst l), .val (.int 10), .val (.exc "BadRow" [("number", d)]), .own (.lst [.bl true, .bl true, .bl false, .bl false])]) (by simp [hC, sizeLine, q1, q2, exs_nil]) ?_
  exact exs_nil
theorem tu11 (C : PB.Callee) (d y : D) (s0 s1 s2 s3 s6 s7 : Slot) (h6 : s6.nr = true) (h7 : s7.nr = true) {l : List D} (hl : atI l 11 = some (.exc "BadText" [("line", d)])) (hC : ∀ env, callV C fns 6 [.fz (.exc "BadText" [("line", d)])] env = .ok (.fr (.lst [.int 11])) env) :
    exSs C fns W bI [s0, s1, s2, s3, .val (.lst l), .val (.int 11), s6, s7] = .ok .next [s0, s1, s2, s3, .val (.lst l), .val (.int 11), .val (.exc "BadText" [("line", d)]), .own (.lst [.bl true, .bl true, .bl false, .bl false])] := by
  have q1 : eqD (.lst [.int 11]) (.lst [.int 11]) = some true := rfl
  have q2 := eqB true true false false
  refine exs_seq (env' := [s0, s1, s2, s3, .val (.lst l), .val (.int 11), .val (.exc "BadText" [("line", d)]), s7]) (by simp [hl, h6, idxD]) ?_
  refine exs_seq (env' := [s0, s1, s2, s3, .val (.lst l), .val (.int 11), .val (.exc "BadText" [("line", d)]), .own (.lst [.bl true, .bl true])]) (by simp (decide := true) [sizeLine, h7]) ?_
  refine exs_seq (env' := [s0, s1, s2, s3, .val (.lst l), .val (.int 11), .val (.exc "BadText" [("line", d)]), .own (.lst [.bl true, .bl true, .bl false, .bl false])]) (by simp (decide := true) [sizeLine]) ?_
  refine exs_seq (env' := [s0, s1, s2, s3, .val (.lst l), .val (.int 11), .val (.exc "BadText" [("line", d)]), .own (.lst [.bl true, .bl true, .bl false, .bl false])]) (by simp [hC, sizeLine, q1, q2, exs_nil]) ?_
  exact exs_nil
theorem tu12 (C : PB.Callee) (d y : D) (s0 s1 s2 s3 s6 s7 : Slot) (h6 : s6.nr = true) (h7 : s7.nr = true) {l : List D} (hl : atI l 12 = some (.exc "TooGreat" [("most", d)])) (hC : ∀ env, callV C fns 6 [.fz (.exc "TooGreat" [("most", d)])] env = .ok (.fr (.lst [.int 12])) env) :
    exSs C fns W bI [s0, s1, s2, s3, .val (.lst l), .val (.int 12), s6, s7] = .ok .next [s0, s1, s2, s3, .val (.lst l), .val (.int 12), .val (.exc "TooGreat" [("most", d)]), .own (.lst [.bl false, .bl false, .bl true, .bl false])] := by
  have q1 : eqD (.lst [.int 12]) (.lst [.int 12]) = some true := rfl
  have q2 := eqB false false true false
  refine exs_seq (env' := [s0, s1, s2, s3, .val (.lst l), .val (.int 12), .val (.exc "TooGreat" [("most", d)]), s7]) (by simp [hl, h6, idxD]) ?_
  refine exs_seq (env' := [s0, s1, s2, s3, .val (.lst l), .val (.int 12), .val (.exc "TooGreat" [("most", d)]), .own (.lst [.bl false, .bl false])]) (by simp (decide := true) [sizeLine, h7]) ?_
  refine exs_seq (env' := [s0, s1, s2, s3, .val (.lst l), .val (.int 12), .val (.exc "TooGreat" [("most", d)]), .own (.lst [.bl false, .bl false, .bl true, .bl false])]) (by simp (decide := true) [sizeLine]) ?_
  refine exs_seq (env' := [s0, s1, s2, s3, .val (.lst l), .val (.int 12), .val (.exc "TooGreat" [("most", d)]), .own (.lst [.bl false, .bl false, .bl true, .bl false])]) (by simp [hC, sizeLine, q1, q2, exs_nil]) ?_
  exact exs_nil
theorem tu13 (C : PB.Callee) (d y : D) (s0 s1 s2 s3 s6 s7 : Slot) (h6 : s6.nr = true) (h7 : s7.nr = true) {l : List D} (hl : atI l 13 = some (.exc "NothingLeft" [("many", d)])) (hC : ∀ env, callV C fns 6 [.fz (.exc "NothingLeft" [("many", d)])] env = .ok (.fr (.lst [.int 13])) env) :
    exSs C fns W bI [s0, s1, s2, s3, .val (.lst l), .val (.int 13), s6, s7] = .ok .next [s0, s1, s2, s3, .val (.lst l), .val (.int 13), .val (.exc "NothingLeft" [("many", d)]), .own (.lst [.bl false, .bl false, .bl false, .bl true])] := by
  have q1 : eqD (.lst [.int 13]) (.lst [.int 13]) = some true := rfl
  have q2 := eqB false false false true
  refine exs_seq (env' := [s0, s1, s2, s3, .val (.lst l), .val (.int 13), .val (.exc "NothingLeft" [("many", d)]), s7]) (by simp [hl, h6, idxD]) ?_
  refine exs_seq (env' := [s0, s1, s2, s3, .val (.lst l), .val (.int 13), .val (.exc "NothingLeft" [("many", d)]), .own (.lst [.bl false, .bl false])]) (by simp (decide := true) [sizeLine, h7]) ?_
  refine exs_seq (env' := [s0, s1, s2, s3, .val (.lst l), .val (.int 13), .val (.exc "NothingLeft" [("many", d)]), .own (.lst [.bl false, .bl false, .bl false, .bl true])]) (by simp (decide := true) [sizeLine]) ?_
  refine exs_seq (env' := [s0, s1, s2, s3, .val (.lst l), .val (.int 13), .val (.exc "NothingLeft" [("many", d)]), .own (.lst [.bl false, .bl false, .bl false, .bl true])]) (by simp [hC, sizeLine, q1, q2, exs_nil]) ?_
  exact exs_nil
def odds : List D := [.non, .int 5, .bl true, .str "a", .tup [.int 1, .int 2], .lst [], .dk [], .tup [.str "x", .lst [.non]], .int (-1), .int 1000000000000000000000000000000]
theorem reprO : ∀ y ∈ odds, ∃ s : Str, reprD (.lst (List.replicate 14 y)) = some (.str s) := by
  intro y hy
  have key : ∀ d : D, (reprD d).isSome = true → ∃ s : Str, reprD d = some (.str s) := fun d h => by
    unfold reprD at h ⊢
    split at h
    · rename_i z
      rw [if_pos z]
      exact ⟨_, rfl⟩
    · cases h
  refine key _ ?_
  simp only [odds, List.mem_cons, List.mem_nil_iff, or_false] at hy
  rcases hy with rfl | rfl | rfl | rfl | rfl | rfl | rfl | rfl | rfl | rfl <;> decide +kernel
theorem pow30 : binD .Pow (.int 10) (.int 30) = some (false, .int 1000000000000000000000000000000) := rfl
/-- one odd thing -/
theorem inner (k : Nat) (y : D) (s0 s1 s2 s3 s5 s6 s7 : Slot) (h5 : s5.nr = true) (h6 : s6.nr = true) (h7 : s7.nr = true) :
    ∃ s5' s6' s7', s5'.nr = true ∧ s6'.nr = true ∧ s7'.nr = true ∧ exS (callF fns W (k + 1)) fns W (.for (.nm 5) (.rng1 (.lit (.int 14))) bI) [s0, s1, s2, s3, .val (.lst (errsOf y)), s5, s6, s7] = .ok .next [s0, s1, s2, s3, .val (.lst (errsOf y)), s5', s6', s7'] := by
  obtain ⟨e, lp, s5', s6', s7', h5', h6', h7', rfl⟩ := forL_inv (asg := asT (callF fns W (k + 1)) fns (.nm 5)) (body := exSs (callF fns W (k + 1)) fns W bI)
    (fun j env => ∃ s5 s6 s7 : Slot, s5.nr = true ∧ s6.nr = true ∧ s7.nr = true ∧ env = [s0, s1, s2, s3, .val (.lst (errsOf y)), s5, s6, s7]) (rangeD 0 14) 0 [s0, s1, s2, s3, .val (.lst (errsOf y)), s5, s6, s7] ⟨s5, s6, s7, h5, h6, h7, rfl⟩ (fun j x env hj h => by
      have hj14 : j < 14 := by have := (List.getElem?_eq_some_iff.mp hj).1; rw [rangeD_length] at this; exact this
      obtain ⟨s5, s6, s7, h5, h6, h7, rfl⟩ := h
      have hx : x = .int j := by
        match j, hj14, hj with
        | 0, _, hj => exact (Option.some.inj hj).symm
        | 1, _, hj => exact (Option.some.inj hj).symm
        | 2, _, hj => exact (Option.some.inj hj).symm
        | 3, _, hj => exact (Option.some.inj hj).symm
        | 4, _, hj => exact (Option.some.inj hj).symm
        | 5, _, hj => exact (Option.some.inj hj).symm
        | 6, _, hj => exact (Option.some.inj hj).symm
        | 7, _, hj => exact (Option.some.inj hj).symm
        | 8, _, hj => exact (Option.some.inj hj).symm
        | 9, _, hj => exact (Option.some.inj hj).symm
        | 10, _, hj => exact (Option.some.inj hj).symm
        | 11, _, hj => exact (Option.some.inj hj).symm
        | 12, _, hj => exact (Option.some.inj hj).symm
        | 13, _, hj => exact (Option.some.inj hj).symm
      subst hx
      have sk : ∀ z i, callF fns W (k + 1) 6 [z] = .ret (.fr (.lst [.int i])) [] → ∀ env, callV (callF fns W (k + 1)) fns 6 [.fz z] env = .ok (.fr (.lst [.int i])) env := fun z i h env => by simp [callV_at n6, f6, h]
      match j, hj14 with
      | 0, _ => exact ⟨_, _, by simp [h5], tu0 W (callF fns W (k + 1)) y y s0 s1 s2 s3 s6 s7 h6 h7 rfl (sk _ _ (s_kinds0 W k y)), _, _, _, rfl, rfl, rfl, rfl⟩
      | 1, _ => exact ⟨_, _, by simp [h5], tu1 W (callF fns W (k + 1)) y y s0 s1 s2 s3 s6 s7 h6 h7 rfl (sk _ _ (s_kinds1 W k y)), _, _, _, rfl, rfl, rfl, rfl⟩
      | 2, _ => exact ⟨_, _, by simp [h5], tu2 W (callF fns W (k + 1)) y y s0 s1 s2 s3 s6 s7 h6 h7 rfl (sk _ _ (s_kinds2 W k y)), _, _, _, rfl, rfl, rfl, rfl⟩
      | 3, _ => exact ⟨_, _, by simp [h5], tu3 W (callF fns W (k + 1)) y y s0 s1 s2 s3 s6 s7 h6 h7 rfl (sk _ _ (s_kinds3 W k y)), _, _, _, rfl, rfl, rfl, rfl⟩
      | 4, _ => exact ⟨_, _, by simp [h5], tu4 W (callF fns W (k + 1)) y y s0 s1 s2 s3 s6 s7 h6 h7 rfl (sk _ _ (s_kinds4 W k y)), _, _, _, rfl, rfl, rfl, rfl⟩
      | 5, _ => exact ⟨_, _, by simp [h5], tu5 W (callF fns W (k + 1)) y y s0 s1 s2 s3 s6 s7 h6 h7 rfl (sk _ _ (s_kinds5 W k y)), _, _, _, rfl, rfl, rfl, rfl⟩
      | 6, _ => exact ⟨_, _, by simp [h5], tu6 W (callF fns W (k + 1)) y y s0 s1 s2 s3 s6 s7 h6 h7 rfl (sk _ _ (s_kinds6 W k y)), _, _, _, rfl, rfl, rfl, rfl⟩
      | 7, _ => exact ⟨_, _, by simp [h5], tu7 W (callF fns W (k + 1)) y y s0 s1 s2 s3 s6 s7 h6 h7 rfl (sk _ _ (s_kinds7 W k y)), _, _, _, rfl, rfl, rfl, rfl⟩
      | 8, _ => exact ⟨_, _, by simp [h5], tu8 W (callF fns W (k + 1)) y y s0 s1 s2 s3 s6 s7 h6 h7 rfl (sk _ _ (s_kinds8 W k y)), _, _, _, rfl, rfl, rfl, rfl⟩
      | 9, _ => exact ⟨_, _, by simp [h5], tu9 W (callF fns W (k + 1)) y y s0 s1 s2 s3 s6 s7 h6 h7 rfl (sk _ _ (s_kinds9 W k y)), _, _, _, rfl, rfl, rfl, rfl⟩
      | 10, _ => exact ⟨_, _, by simp [h5], tu10 W (callF fns W (k + 1)) y y s0 s1 s2 s3 s6 s7 h6 h7 rfl (sk _ _ (s_kinds10 W k y)), _, _, _, rfl, rfl, rfl, rfl⟩
      | 11, _ => exact ⟨_, _, by simp [h5], tu11 W (callF fns W (k + 1)) y y s0 s1 s2 s3 s6 s7 h6 h7 rfl (sk _ _ (s_kinds11 W k y)), _, _, _, rfl, rfl, rfl, rfl⟩
      | 12, _ => exact ⟨_, _, by simp [h5], tu12 W (callF fns W (k + 1)) y y s0 s1 s2 s3 s6 s7 h6 h7 rfl (sk _ _ (s_kinds12 W k y)), _, _, _, rfl, rfl, rfl, rfl⟩
      | 13, _ => exact ⟨_, _, by simp [h5], tu13 W (callF fns W (k + 1)) y y s0 s1 s2 s3 s6 s7 h6 h7 rfl (sk _ _ (s_kinds13 W k y)), _, _, _, rfl, rfl, rfl, rfl⟩)
  exact ⟨s5', s6', s7', h5', h6', h7', for_rng1 (h := 14) (env' := [s0, s1, s2, s3, .val (.lst (errsOf y)), s5, s6, s7]) (by simp) (by decide) (by decide) lp⟩
end Law

/-! K01d -/
/-! k01: the law, the whole -/
namespace Law
open PySem PB L2
variable (W : Nat)
theorem mid (k : Nat) {y : D} (hy : y ∈ odds) (s0 s1 s2 s5 s6 s7 : Slot) (h5 : s5.nr = true) (h6 : s6.nr = true) (h7 : s7.nr = true) :
    ∃ s5' s6' s7', s5'.nr = true ∧ s6'.nr = true ∧ s7'.nr = true ∧ exSs (callF fns W (k + 1)) fns W bM [s0, s1, s2, .val y, .val (.lst (errsOf y)), s5, s6, s7] = .ok .next [s0, s1, s2, .val y, .val (.lst (errsOf y)), s5', s6', s7'] := by
  obtain ⟨s5', s6', s7', h5', h6', h7', lp⟩ := inner W k y s0 s1 s2 (.val y) s5 s6 s7 h5 h6 h7
  refine ⟨s5', s6', s7', h5', h6', h7', ?_⟩
  obtain ⟨s, hs⟩ := reprO y hy
  have hf := s_fields W k y
  have em : List.replicate 14 y = [y, y, y, y, y, y, y, y, y, y, y, y, y, y] := rfl
  rw [em] at hs hf
  generalize errsOf y = l at *
  refine exs_seq (env' := [s0, s1, s2, .val y, .val (.lst l), s5, s6, s7]) ?_ ?_
  · simp [callV_at n5, f5, hf, hs, sizeLine, exs_nil]
  exact exs_seq lp exs_nil
theorem pick_odds (k : Nat) {n : Nat} (hn : n < 1000000) {d : D} (hd : Dr n d) : ∃ y d', callF fns W (k + 2) 2 [d, .lst odds] = .ret (.fz y) [d'] ∧ y ∈ odds ∧ Dr (n + 1) d' := s_pick W k hn hd (by simp [odds]) (by simp [odds])
theorem turn (k : Nat) {n : Nat} (hn : n < 1000000) {d : D} (hd : Dr n d) (s0 s2 s3 s4 s5 s6 s7 : Slot) (h3 : s3.nr = true) (h4 : s4.nr = true) (h5 : s5.nr = true) (h6 : s6.nr = true) (h7 : s7.nr = true) :
    ∃ d' s3' s4' s5' s6' s7', Dr (n + 1) d' ∧ s3'.nr = true ∧ s4'.nr = true ∧ s5'.nr = true ∧ s6'.nr = true ∧ s7'.nr = true ∧ exSs (callF fns W (k + 2)) fns W bO [s0, .own d, s2, s3, s4, s5, s6, s7] = .ok .next [s0, .own d', s2, s3', s4', s5', s6', s7'] := by
  obtain ⟨y, d', q, hy, hd'⟩ := pick_odds W k hn hd
  obtain ⟨e, lp, s4', s5', s6', s7', h4', h5', h6', h7', rfl⟩ := forL_inv (asg := asT (callF fns W (k + 2)) fns (.nm 4)) (body := exSs (callF fns W (k + 2)) fns W bM)
    (fun _ env => ∃ s4 s5 s6 s7 : Slot, s4.nr = true ∧ s5.nr = true ∧ s6.nr = true ∧ s7.nr = true ∧ env = [s0, .own d', s2, .val y, s4, s5, s6, s7]) [.lst (errsOf y), .lst (errsOf y)] 0 [s0, .own d', s2, .val y, s4, s5, s6, s7] ⟨s4, s5, s6, s7, h4, h5, h6, h7, rfl⟩ (fun j x env hj h => by
      obtain ⟨s4, s5, s6, s7, h4, h5, h6, h7, rfl⟩ := h
      have hx : x = .lst (errsOf y) := by
        have := List.mem_of_getElem? hj
        simpa using this
      subst hx
      obtain ⟨s5', s6', s7', h5', h6', h7', e⟩ := mid W (k + 1) hy s0 (.own d') s2 s5 s6 s7 h5 h6 h7
      exact ⟨_, _, by simp [h4], e, _, s5', s6', s7', rfl, h5', h6', h7', rfl⟩)
  refine ⟨d', .val y, s4', s5', s6', s7', hd', rfl, h4', h5', h6', h7', ?_⟩
  have a1 := s_all W (k + 1) y
  have a2 := s_named W (k + 1) y
  have eo : odds = [.non, .int 5, .bl true, .str "a", .tup [.int 1, .int 2], .lst [], .dk [], .tup [.str "x", .lst [.non]], .int (-1), .int 1000000000000000000000000000000] := rfl
  rw [eo] at q
  refine exs_seq (env' := [s0, .own d', s2, .val y, s4, s5, s6, s7]) ?_ ?_
  · simp [callV_at n2, f2, q, sizeLine, h3, dctV, pow30, kput]
  refine exs_seq (for_seq (v := .fz (.tup [.lst (errsOf y), .lst (errsOf y)])) (env1 := [s0, .own d', s2, .val y, s4, s5, s6, s7]) (env' := [s0, .own d', s2, .val y, s4, s5, s6, s7]) ?_ rfl rfl lp) exs_nil
  generalize errsOf y = l at *
  simp [callV_at n3, callV_at n4, f3, f4, a1, a2, sizeLine]
theorem plain : ∀ ns : List Int, ns.length ≤ 63 → callF fns 1000 10 7 [.lst (ns.map .int)] = .ret (.fz (.bl true)) [] := by
  intro ns hn
  obtain ⟨d0, q0, hd0⟩ := begin_spec (W := 1000) (k := 8) n0 hn
  obtain ⟨e, lp, d, s2, s3, s4, s5, s6, s7, hd, h2, h3, h4, h5, h6, h7, rfl⟩ := forL_inv (asg := asT (callF fns 1000 9) fns (.nm 2)) (body := exSs (callF fns 1000 9) fns 1000 bO)
    (fun j env => ∃ (d : D) (s2 s3 s4 s5 s6 s7 : Slot), Dr j d ∧ s2.nr = true ∧ s3.nr = true ∧ s4.nr = true ∧ s5.nr = true ∧ s6.nr = true ∧ s7.nr = true ∧ env = [.val (.lst (ns.map .int)), .own d, s2, s3, s4, s5, s6, s7]) (rangeD 0 3) 0 [.val (.lst (ns.map .int)), .own d0, .no, .no, .no, .no, .no, .no]
    ⟨d0, .no, .no, .no, .no, .no, .no, hd0, rfl, rfl, rfl, rfl, rfl, rfl, rfl⟩ (fun j x env hj h => by
      have hj3 : j < 3 := by have := (List.getElem?_eq_some_iff.mp hj).1; rw [rangeD_length] at this; exact this
      obtain ⟨d, s2, s3, s4, s5, s6, s7, hd, h2, h3, h4, h5, h6, h7, rfl⟩ := h
      obtain ⟨d', s3', s4', s5', s6', s7', g0, g3, g4, g5, g6, g7, e⟩ := turn 1000 7 (n := 0 + j) (by omega) hd (.val (.lst (ns.map .int))) (.val x) s3 s4 s5 s6 s7 h3 h4 h5 h6 h7
      exact ⟨_, _, by simp [h2], e, d', .val x, s3', s4', s5', s6', s7', g0, rfl, g3, g4, g5, g6, g7, rfl⟩)
  refine callF_run (env0 := [.val (.lst (ns.map .int)), .no, .no, .no, .no, .no, .no, .no]) (v := .fz (.bl true)) (env1 := [.val (.lst (ns.map .int)), .own d, s2, s3, s4, s5, s6, s7]) n7 rfl rfl ?_ rfl rfl
  rw [body7]
  refine exs_seq (env' := [.val (.lst (ns.map .int)), .own d0, .no, .no, .no, .no, .no, .no]) (by simp [callV_at n0, beginFn, q0]) ?_
  refine exs_seq (for_rng1 (h := 3) (env' := [.val (.lst (ns.map .int)), .own d0, .no, .no, .no, .no, .no, .no]) (by simp) (by decide) (by decide) lp) ?_
  exact exs_ret (by simp)
end Law

/-! the head, printed by hd.py -/
namespace Law
open PySem PB
theorem binds : BindL fns dl := by
  refine ⟨?_, ?_, ?_, ?_, ?_, ?_, ?_, ?_, trivial⟩
  · exact fun _ _ _ _ _ _ us hl => match us, hl with | [_], _ => rfl
  · exact fun _ _ _ _ _ _ us hl => match us, hl with | [_, _], _ => rfl
  · exact fun _ _ _ _ _ _ us hl => match us, hl with | [_, _], _ => rfl
  · exact fun _ _ _ _ _ _ us hl => match us, hl with | [_], _ => rfl
  · exact fun _ _ _ _ _ _ us hl => match us, hl with | [_], _ => rfl
  · exact fun _ _ _ _ _ _ us hl => match us, hl with | [_], _ => rfl
  · exact fun _ _ _ _ _ _ us hl => match us, hl with | [_], _ => rfl
  · exact fun _ _ _ _ _ _ us hl => match us, hl with | [_], _ => rfl
theorem kwds : KwL fns dl kw := by
  exact trivial
theorem xbinds : BindX txt.xx.xs txt.xl := by
  exact ⟨fun _ _ _ _ _ _ _ _ => ⟨rfl, rfl⟩, fun _ _ _ _ _ _ _ _ => ⟨rfl, rfl⟩, fun _ _ _ _ _ _ _ _ => ⟨rfl, rfl⟩, fun _ _ _ _ _ _ _ _ => ⟨rfl, rfl⟩, fun _ _ _ _ _ _ _ _ => ⟨rfl, rfl⟩, fun _ _ _ _ _ _ _ _ => ⟨rfl, rfl⟩, fun _ _ _ _ _ _ _ _ => ⟨rfl, rfl⟩, fun _ _ _ _ _ _ _ _ => ⟨rfl, rfl⟩, fun _ _ _ _ _ _ _ _ => ⟨rfl, rfl⟩, fun _ _ _ _ _ _ _ _ => ⟨rfl, rfl⟩, fun _ _ _ _ _ _ _ _ => ⟨rfl, rfl⟩, fun _ _ _ _ _ _ _ _ => ⟨rfl, rfl⟩, fun _ _ _ _ _ _ _ _ => ⟨rfl, rfl⟩, fun _ _ _ _ _ _ _ _ => ⟨rfl, rfl⟩, trivial⟩
def nm0 : List Str := ["SetError", "BadWorld", "BadRule", "BadStart", "BadBound", "BadStand", "BadRound", "BadRun", "BadRanges", "BadPaper", "BadRow", "BadText", "BadNumber", "TooGreat", "NothingLeft", "_law_begin", "_law_next", "_law_pick", "_law_all", "_law_named", "_law_fields", "_law_kinds"]
def loose : List Str := nm0
abbrev R : PySem.W.OpenRow := PySem.W.OpenLaw.row PySem.Challenge.rw_setbooks_k01_errors_made
abbrev hk : PySem.W.Hook := hookE 4 txt.xx txt.mks txt.fa txt.df txt.tabs
def ob (s : PySem.W.SharedT) : AlE := obsEG 4 txt.xx txt.mks txt.fa txt.df txt.tabs (HandSHeadRun.getT s)
theorem ob_is (s : PySem.W.SharedT) : ob s = hk.obs s.abs := obsEG_eq (HandSHeadRun.getT_eq s)
theorem run (w : World) : HandSHeadRun.RunEq R (PySem.W.view R.prog [24]) hk ob 6000 loose w := by
  intro os
  kernel_rfl
end Law
open PySem PySem.W PySem.Calls PyProof.Rows
theorem PySem.Challenge.cw_setbooks_k01_errors_made_holds : PySem.Challenge.rw_setbooks_k01_errors_made.Holds := by
  w_on; o_law
  refine HandSHeadRun.head_any (r := Law.R) (q := view Law.R.prog [24]) (H := Law.hk) (ob := Law.ob) (M := 6000) (loose := Law.loose) (d := HandSHeadRun.topDef Law.R.prog 24) (kwd := []) Law.ob_is
    (by kernel_rfl) (fun s => by kernel_rfl) Law.run (by kernel_rfl) (by kernel_rfl) (by kernel_rfl) (by rfl) (by first | assumption | decide +kernel) (by decide +kernel) ⟨rfl, rfl, rfl, rfl, rfl, by decide +kernel⟩ ?hw ?hc
  case hw => w_witness2
  case hc =>
    exact PB.Txt.walk (T := Law.txt) (l := PySem.Challenge.rw_setbooks_k01_errors_made) (n := 63) (k := 10) (Wf := 1000) (fl := 7) (x := "_law_script") (fn := Law.f7) Law.txt_ok Law.binds Law.kwds Law.xbinds rfl rfl
      (fun w h Y => Y) (by kernel_rfl) rfl (by decide) (by kernel_rfl) ⟨rfl, by decide, by decide⟩ rfl rfl Law.plain
