import PyProof.Rows.All
import Wide.All
import OpenK.AllK
import Wide.FinOn
import HandS.ForMost
import HandS.Star
import KE.KParD
import HandS.Conv
import HandS.More
import KE.KDictList
import HandS.ForExc
import HandS.MakeKwOnly
import HandS.ClsMeth
import HandS.Property
import HandS.TupAny
import HandS.IsInst
import HandS.Zip
import HandS.Style
import PySem.Challenge.RW_skipahead_k11_whole_works_of_servers
import HandS.Evl
import HandS.Walk
import HandS.DictComp
import HandS.TryOnly
set_option Elab.async false
set_option linter.all false
set_option maxRecDepth 100000
set_option maxHeartbeats 4000000
namespace KwX
open PySem PySem.Spec PyProof.Rows L2
open PySem.W (kwEs dictOf putL_new)
/-! a dict filled by nsSet, on the heap itself -/
section
variable {prog : Program} {w : World} {A : Around} {E : Value → Shared → Prop} {d : Addr}
theorem ns_put {s : Shared} {es : List DictEntry} {n : Nat} {k : Str} {v : Value} {Q : Unit → Shared → Prop} (D : s.heap.get? d = some (dictOf es n))
    (hs : ∀ e ∈ es, e.key.isStr k = false) (hr : ∀ e ∈ es, e.refKey = false)
    (h : ∀ h', h'.get? d = some (dictOf (es ++ [⟨PyData.keyHash w.params k, .str k s.toks, v⟩]) (n + 1)) → Heap.SameBut d s.heap h' → Q () { s with heap := h', toks := s.toks + 1 }) :
    wpAny (model prog w) A (nsSet d k v) Q E s := by
  have e1 : es.any (·.key.isStr k) = false := by
    cases q : es.any (·.key.isStr k) with
    | false => rfl
    | true => obtain ⟨e, he, z⟩ := List.any_eq_true.mp q; rw [hs e he] at z; cases z
  have e2 : es.any (·.refKey) = false := by
    cases q : es.any (·.refKey) with
    | false => rfl
    | true => obtain ⟨e, he, z⟩ := List.any_eq_true.mp q; rw [hr e he] at z; cases z
  have e : Obj.putName k (PyData.keyHash w.params k) (.str k s.toks) v (dictOf es n) = dictOf (es ++ [⟨PyData.keyHash w.params k, .str k s.toks, v⟩]) (n + 1) := by
    rw [PySem.W.putName_dict, putL_new hs]
    show dictOf _ (if es.any (·.key.isStr k) then n else n + 1) = _
    rw [e1, if_neg Bool.false_ne_true]
  have c : aRefKeyMayBeTheName k es.toArray = false := by
    rw [aRefKeyMayBeTheName_at, ← Array.any_toList, ← Array.any_toList]
    show (!es.any (·.key.isStr k) && es.any (·.refKey)) = false
    rw [e2, Bool.and_false]
  unfold nsSet
  refine wpAny_bind (wpAny_bind (wpAny_askSetting (wpAny_pure (wpAny_bind (wpAny_mkText (wpAny_bind (wpAny_loadPart D ?_)))))))
  dsimp only
  rw [c]
  refine wpAny_updatePart D (h _ ?_ (Heap.SameBut.update ..))
  rw [Heap.get?_update_self _ D (by
    have q : Obj.isFreed (Obj.putName k (PyData.keyHash w.params k) (.str k s.toks) v (dictOf es n)) = false := by rw [e]; rfl
    exact q)]
  exact congrArg some e
theorem ns_fill {Q : PUnit → Shared → Prop} : ∀ (ex : List (Str × Value)) (s : Shared) (es : List DictEntry) (n : Nat), s.heap.get? d = some (dictOf es n) →
    (∀ e ∈ es, ∀ x ∈ ex, e.key.isStr x.1 = false) → (∀ e ∈ es, e.refKey = false) → (ex.map (·.1)).Nodup →
    (∀ h', h'.get? d = some (dictOf (es ++ kwEs w.params s.toks ex) (n + ex.length)) → Heap.SameBut d s.heap h' → Q ⟨⟩ { s with heap := h', toks := s.toks + ex.length }) →
    wpAny (model prog w) A (forIn ex PUnit.unit fun x _ => (nsSet d x.1 x.2 >>= fun _ => pure (ForInStep.yield PUnit.unit))) Q E s
  | [], s, es, n, D, _, _, _, h => by
    rw [List.forIn_nil]
    refine wpAny_pure (h s.heap ?_ (Heap.SameBut.refl _ _))
    show s.heap.get? d = some (dictOf (es ++ []) n)
    rw [List.append_nil]
    exact D
  | x :: r, s, es, n, D, hs, hr, hn, h => by
    obtain ⟨hn1, hn2⟩ := List.nodup_cons.mp (show (x.1 :: r.map (·.1)).Nodup from hn)
    rw [List.forIn_cons]
    refine wpAny_bind (wpAny_bind (ns_put D (fun e he => hs e he x (.head _)) hr fun h' D' S' => wpAny_pure ?_))
    show wpAny (model prog w) A (forIn r PUnit.unit fun x _ => (nsSet d x.1 x.2 >>= fun _ => pure (ForInStep.yield PUnit.unit))) Q E { s with heap := h', toks := s.toks + 1 }
    refine ns_fill r { s with heap := h', toks := s.toks + 1 } _ _ D' (fun e he y hy => ?_) (fun e he => ?_) hn2 fun h'' D'' S'' => ?_
    · rcases List.mem_append.mp he with he | he
      · exact hs e he y (.tail _ hy)
      · obtain rfl := List.mem_singleton.mp he
        show (x.1 == y.1) = false
        exact beq_eq_false_iff_ne.mpr fun q => hn1 (by rw [q]; exact List.mem_map_of_mem hy)
    · rcases List.mem_append.mp he with he | he
      · exact hr e he
      · obtain rfl := List.mem_singleton.mp he
        rfl
    · have t1 : s.toks + 1 + r.length = s.toks + (r.length + 1) := by omega
      have t2 : n + 1 + r.length = n + (r.length + 1) := by omega
      show Q ⟨⟩ { s with heap := h'', toks := s.toks + 1 + r.length }
      rw [t1]
      refine h h'' ?_ (S'.trans S'')
      rw [t2, List.append_assoc] at D''
      exact D''
end
end KwX
namespace KwX
open PySem PySem.Spec PyProof.Rows L2
theorem forIn_extra {β γ : Type} (f : γ → (β × List γ) → Sem (ForInStep (β × List γ))) : ∀ (kw : List γ) (b : β) (ex : List γ), (∀ q ∈ kw, ∀ ex, f q (b, ex) = pure (ForInStep.yield (b, ex ++ [q]))) → forIn kw (b, ex) f = pure (b, ex ++ kw)
  | [], b, ex, _ => by rw [List.forIn_nil, List.append_nil]
  | q :: r, b, ex, h => by
    rw [List.forIn_cons, h q (.head _) ex, pure_bind]
    show forIn r (b, ex ++ [q]) f = _
    rw [forIn_extra f r b (ex ++ [q]) fun q' hq => h q' (.tail _ hq), List.append_assoc]
    rfl
theorem bind_kw {name qual : Str} {body : List Stmt} {scope : Scope} {kV doc pm cdv ct : Value} {an : Option Addr} {q1 q2 : Pos} {x : Value} (kw : List (Str × Value)) (hk : ∀ q ∈ kw, (q.1 == ("this_book" : Str)) = false) (hz : kw.length ≤ 1000) :
    bindArgs (PySem.W.fnOf name qual { posonlyargs := [], args := [{ arg := "this_book", annotation := none, pos := q1 }], vararg := none, kwonlyargs := [], kw_defaults := [], kwarg := some { arg := "commands", annotation := none, pos := q2 }, defaults := [] } body scope .none kV doc pm an cdv ct) ⟨[x], kw⟩ =
      ((alloc ({ cls := .type "dict", data := .dict #[] } : Obj) : Sem Addr) >>= fun d => (forIn kw PUnit.unit (fun x _ => (nsSet d x.1 x.2 >>= fun _ => pure (ForInStep.yield PUnit.unit)))) >>= fun _ => pure [(("this_book" : Str), x), (("commands" : Str), Value.ref d)]) := by
  unfold bindArgs
  dsimp only [PySem.W.fnOf]
  simp only [List.map_cons, List.map_nil, List.append_nil, List.nil_append, List.length_cons, List.length_nil]
  rw [forIn_extra _ kw _ _ fun q hq ex => by
    have e1 : (([("this_book" : Str)] : List Str).contains q.1 || ([] : List Str).contains q.1) = false := by
      have := hk q hq
      simp only [List.contains_cons, List.contains_nil, Bool.or_false]
      exact this
    rw [e1]
    rfl]
  rw [pure_bind]
  have e : ¬ (kw.length > sizeLine + 1) := by
    have : (1000 : Nat) ≤ sizeLine := by decide
    omega
  simp only [List.nil_append, if_neg e]
  rfl
end KwX
namespace KwX
open PySem PySem.Spec PyProof.Rows L2
section
variable {prog : Program} {w : World} {A : Around} {E : Value → Shared → Prop} {d a : Addr}
/-- a key that is not there yet -/
theorem put_new {s : Shared} {kvs : List (Key × Value)} {k : Key} {key v : Value} {Q : Unit → Shared → Prop} (hkey : (mixKind prog w).is k key = true) (hm : s.heap.DictOf (mixKind prog w) d kvs) (hnot : k ∉ kvs.map (·.1)) (hz : kvs.length ≤ 1000)
    (hQ : ∀ h', h'.DictOf (mixKind prog w) d (kvs ++ [(k, v)]) → Heap.SameBut d s.heap h' → Q () { s with heap := h' }) :
    wpAny (model prog w) A (do
      if (← dictFind d key ((mixKind prog w).hash k)).isSome then
        rule "dict.merge.duplicate-key"
        raiseNew (← newExc (.type "KeyError") [key])
      dictPut d ((mixKind prog w).hash k) key v) Q E s := by
  obtain ⟨o, es, ep, ho, hc, hd, hk, hp, hn⟩ := hm
  have hes : es.size ≤ sizeLine := by
    have e1 := hp.length
    have e2 : es.toList.length = es.size := by simp
    have e3 : (1000 : Nat) ≤ sizeLine := by decide
    omega
  have hidx : (es.findIdx? fun e => (mixKind prog w).is k e.key) = none := by
    have e : (es.findIdx? fun e => (mixKind prog w).is k e.key) = kvs.findIdx? fun kv => decide (kv.1 = k) := by
      rw [← hp.findIdx k]; obtain ⟨l⟩ := es; simp
    rw [e]
    refine List.findIdx?_eq_none_iff.mpr fun kv hkv => ?_
    exact decide_eq_false fun q => hnot (List.mem_map.mpr ⟨kv, hkv, q⟩)
  refine wpAny_bind (wpAny_dictFind_of hkey ho hd hk ?_)
  rw [hidx]
  show wpAny _ _ (dictPut d ((mixKind prog w).hash k) key v) _ _ _
  unfold dictPut
  refine wpAny_bind (wpAny_dictFind_of hkey ho hd hk ?_)
  rw [hidx]
  show wpAny _ _ (updateDictKeys d (·.push ⟨(mixKind prog w).hash k, key, v⟩)) _ _ _
  refine wpAny_updateDictKeys (hz := hes) ho hd (hQ _ ⟨_, _, ep + 1, Heap.get?_update_self _ ho (Obj.isFreed_of_dict (Obj.data_mapDictKeys hd _)),
      hc.mapDictKeys _, Obj.data_mapDictKeys hd _, hk.push hkey _, ?_, ?_⟩ (Heap.SameBut.update ..))
  · have := hp.append hkey ((mixKind prog w).hash k) v
    obtain ⟨l⟩ := es
    simpa using this
  · rw [List.map_append, List.nodup_append]
    refine ⟨hn, by simp, ?_⟩
    intro x hx y hy
    simp only [List.map_cons, List.map_nil, List.mem_singleton] at hy
    subst hy
    exact fun e => hnot (e ▸ hx)
theorem wp_merge {s : Shared} {more : List (Key × Value)} {Q : Unit → Shared → Prop} (hne : d ≠ a) (haS : (a == sysModules) = false) (hd : s.heap.DictOf (mixKind prog w) d []) (ha : s.heap.DictOf (mixKind prog w) a more) (hz : more.length ≤ 1000)
    (hQ : ∀ h', h'.DictOf (mixKind prog w) d more → Heap.SameBut d s.heap h' → Q () { s with heap := h' }) :
    wpAny (model prog w) A (mergeMapping d (.ref a) true) Q E s := by
  obtain ⟨od, esd, epd, hod, hcd, hdd, hkd, hpd, hnd⟩ := id hd
  obtain ⟨oo, eso, epo, hoo, hco, hdo', hko, hpo, hno⟩ := id ha
  have hlen : more.length = eso.size := by rw [← hpo.length]; simp
  unfold mergeMapping
  refine wpAny_bind (wpAny_isInstance ha.typeIs isSubtype_dict_dict ?_)
  simp only [if_true]
  refine wpAny_bind (wpAny_specialOf ha.typeIs F.slot_dict_iter.lookup (wpAny_bind (wpAny_pure ?_)))
  simp only [beq_self_eq_true]
  rw [haS]
  simp only [Bool.false_eq_true, if_false]
  refine wpAny_bind (wpAny_dictEntries hod hdd ?_)
  have h0 : esd = #[] := by
    have := hpd.length
    simp only [List.length_nil, Array.length_toList] at this
    exact Array.size_eq_zero_iff.mp this
  subst h0
  show wpAny _ _ (if (#[] : Array DictEntry).isEmpty = true then _ else _) _ _ _
  rw [if_pos (by rfl)]
  refine wpAny_bind (wpAny_dictEntries hoo hdo' ?_)
  have hloop : (forIn eso PUnit.unit fun e (_ : PUnit) => (match e.key with
      | .ref _ => do
        let q ← specialOf e.key "__eq__"
        if (q != some (Value.builtin "object.__eq__")) = true then
          if (eso.filter (·.hash == e.hash)).size > 1 then (do let _ ← (unsupported "dict.merge-into-an-empty-dict:keys-of-equal-hash" : Sem PUnit); pure (ForInStep.yield PUnit.unit)) else pure (ForInStep.yield PUnit.unit)
        else pure (ForInStep.yield PUnit.unit)
      | _ => pure (ForInStep.yield PUnit.unit) : Sem (ForInStep PUnit))) = pure PUnit.unit := by
    rw [← Array.forIn_toList]
    refine forIn_yield_id _ fun e he c => ?_
    obtain ⟨k, hkey, _⟩ := hko e (Array.mem_toList_iff.mp he)
    rcases keyIs_shape hkey with ⟨i, t, _, ek⟩ | ⟨x, t, _, ek⟩ <;> rw [ek]
  refine wpAny_bind (wpAny_of_eq hloop ?_)
  refine wpAny_bind (wpAny_dictEntries hoo hdo' ?_)
  refine wpAny_bind (wpAny_dictEpoch hoo hdo' ?_)
  refine wpAny_bind ?_
  rw [List.range_eq_range']
  refine wpAny_forIn_list _
      (fun rest _ s' => ∃ h' i, s' = { s with heap := h' } ∧ rest = List.range' i (eso.size - i) ∧ i ≤ eso.size ∧ h'.DictOf (mixKind prog w) d (more.take i) ∧ h'.get? a = some oo ∧ Heap.SameBut d s.heap h')
      _ ?_ ?_ _ _ ⟨s.heap, 0, rfl, by simp, Nat.zero_le _, by simpa using hd, hoo, Heap.SameBut.refl _ _⟩
  · rintro x rest b s' ⟨h', i, rfl, hr, hi, hd', hoo', hs'⟩
    have hlt : i < eso.size := by
      rcases Nat.lt_or_ge i eso.size with h | h
      · exact h
      · rw [Nat.sub_eq_zero_of_le h] at hr; simp at hr
    obtain ⟨rfl, hrest⟩ : x = i ∧ rest = List.range' (i + 1) (eso.size - (i + 1)) := by
      have e : eso.size - i = (eso.size - (i + 1)) + 1 := by omega
      rw [e, List.range'_succ] at hr
      injection hr with h1 h2
      exact ⟨h1, h2⟩
    refine wpAny_bind (wpAny_dictEntries hoo' hdo' ?_)
    rw [Array.getElem?_eq_getElem hlt]
    have hxm : x < more.length := by rw [hlen]; exact hlt
    obtain ⟨kv, hkv⟩ : ∃ kv, more[x]? = some kv := ⟨more[x]'hxm, List.getElem?_eq_getElem _⟩
    obtain ⟨k, v⟩ := kv
    obtain ⟨hkey, hval⟩ := hpo.get? (e := eso[x]) (by simp [hlt]) hkv
    obtain ⟨k', hkey', hhash⟩ := hko eso[x] (Array.getElem_mem hlt)
    obtain rfl : k' = k := (mixKind prog w).inj _ _ _ hkey' hkey
    have tk : more.take (x + 1) = more.take x ++ [(k', v)] := by
      rw [List.take_add_one, hkv]; rfl
    have hnot : k' ∉ (more.take x).map (·.1) := by
      intro hm
      have hn1 : ((more.take (x + 1)).map (·.1)).Nodup := by
        rw [List.map_take]
        exact hno.sublist (List.take_sublist _ _)
      rw [tk, List.map_append, List.nodup_append] at hn1
      exact hn1.2.2 _ hm k' (by simp) rfl
    show wpAny _ _ (holding [eso[x].key, eso[x].val] _ >>= _) _ _ _
    refine wpAny_bind (wpAny_holding ?_)
    rw [hhash, hval]
    refine put_new (s := { s with heap := h' }) hkey hd' hnot (by rw [List.length_take]; omega) fun h'' hd'' hs'' => ?_
    have hoo'' : h''.get? a = some oo := (hs''.2 a (Ne.symm hne)).trans hoo'
    refine wpAny_bind (wpAny_dictEpoch hoo'' hdo' ?_)
    rw [if_neg (by simp)]
    exact wpAny_pure ⟨h'', x + 1, rfl, hrest, hlt, by rw [tk]; exact hd'', hoo'', hs'.trans hs''⟩
  · rintro b s' ⟨h', i, rfl, hr, hi, hd', hoo', hs'⟩
    have hin : i = eso.size := by
      rcases Nat.lt_or_ge i eso.size with h | h
      · have e : eso.size - i = (eso.size - (i + 1)) + 1 := by omega
        rw [e, List.range'_succ] at hr; exact nomatch hr
      · exact Nat.le_antisymm hi h
    refine wpAny_pure (hQ h' ?_ hs')
    rw [hin, ← hlen, List.take_length] at hd'; exact hd'
end
end KwX
namespace KwX
open PySem PySem.Spec PyProof.Rows L2
def nm : Key → Str
  | .inl _ => Str.empty
  | .inr x => x
theorem forIn_grow {β γ : Type} (g : γ → β) (f : γ → List β → Sem (ForInStep (List β))) : ∀ (l : List γ) (ex : List β), (∀ q ∈ l, ∀ ex, f q ex = pure (ForInStep.yield (ex ++ [g q]))) → forIn l ex f = pure (ex ++ l.map g)
  | [], ex, _ => by rw [List.forIn_nil, List.map_nil, List.append_nil]
  | q :: r, ex, h => by
    rw [List.forIn_cons, h q (.head _) ex, pure_bind]
    show forIn r (ex ++ [g q]) f = _
    rw [forIn_grow g f r (ex ++ [g q]) fun q' hq => h q' (.tail _ hq), List.append_assoc]
    rfl
section
variable {prog : Program} {w : World} {A : Around} {E : Value → Shared → Prop} {d a : Addr}
theorem pairs_map : ∀ {es : List DictEntry} {vs : List (Key × Value)}, Pairs (mixKind prog w) es vs → (∀ p ∈ vs, ∃ x, p.1 = Sum.inr x) →
    (∀ e ∈ es, ∃ x t, e.key = Value.str x t) ∧ es.map (fun e => (match e.key with | .str x _ => x | _ => Str.empty, e.val)) = vs.map fun p => (nm p.1, p.2)
  | _, _, .nil, _ => ⟨fun _ h => (by cases h), rfl⟩
  | _, _, .cons (e := e) (kv := kv) (es := es) (kvs := kvs) hk hv t, h => by
    obtain ⟨h1, h2⟩ := pairs_map t fun p hp => h p (.tail _ hp)
    obtain ⟨x, ex⟩ := h kv (.head _)
    have hk' : keyIs kv.1 e.key = true := hk
    rcases keyIs_shape hk' with ⟨i, u, q, ek⟩ | ⟨y, u, q, ek⟩
    · rw [q] at ex; cases ex
    · refine ⟨fun e' he => ?_, ?_⟩
      · rcases List.mem_cons.mp he with z | z
        · rw [z]; exact ⟨y, u, ek⟩
        · exact h1 e' z
      · rw [List.map_cons, List.map_cons, h2, ek, hv, q]
        rfl
theorem wp_kwIn {s : Shared} {f : Value} {vs : List (Key × Value)} {Q : List (Str × Value) → Shared → Prop} (hd : s.heap.DictOf (mixKind prog w) d vs) (hs : ∀ p ∈ vs, ∃ x, p.1 = Sum.inr x) (h : Q (vs.map fun p => (nm p.1, p.2)) s) :
    wpAny (model prog w) A (keywordsIn f d) Q E s := by
  obtain ⟨o, es, ep, ho, hc, hda, hk, hp, hn⟩ := hd
  obtain ⟨h1, h2⟩ := pairs_map hp hs
  unfold keywordsIn
  refine wpAny_bind (wpAny_dictEntries ho hda ?_)
  rw [← Array.forIn_toList]
  rw [forIn_grow (fun e : DictEntry => (match e.key with | .str x _ => x | _ => Str.empty, e.val)) _ es.toList [] fun e he ex => by
    obtain ⟨x, t, ek⟩ := h1 e he
    rw [ek]]
  rw [pure_bind, List.nil_append, h2]
  exact wpAny_pure h
/-- ** of one mapping that is a dict with text keys -/
theorem wp_kwargs {s : Shared} {f : Value} {x : Sem Value} {Q : Args → Shared → Prop} (hS : sysModules < s.heap.objs.size)
    (h : wpAny (model prog w) A x (fun v s1 => ∃ a vs, v = .ref a ∧ s.heap.objs.size ≠ a ∧ (a == sysModules) = false ∧ s1.heap.DictOf (mixKind prog w) s.heap.objs.size [] ∧ s1.heap.DictOf (mixKind prog w) a vs ∧ (∀ p ∈ vs, ∃ x, p.1 = Sum.inr x) ∧ vs.length ≤ 1000 ∧
      ∀ h', h'.DictOf (mixKind prog w) s.heap.objs.size vs → Heap.SameBut s.heap.objs.size s1.heap h' → Q ⟨[], vs.map fun p => (nm p.1, p.2)⟩ { s1 with heap := h' }) E { s with heap := s.heap.push ({ cls := .type "dict", data := .dict #[] } : Obj) }) :
    wpAny (model prog w) A (evalArgs f true [] [(none, x)]) Q E s := by
  unfold evalArgs
  refine wpAny_bind (Calls.spliced_nil (wpAny_bind (wpAny_pure ?_)))
  refine wpAny_holding ?_
  rw [if_neg (by simp)]
  refine wpAny_bind ?_
  unfold mergedKeywords
  refine wpAny_bind (wpAny_alloc ?_)
  refine wpAny_bind (wpAny_holding ?_)
  refine wpAny_bind ?_
  rw [List.forIn_cons]
  refine wpAny_bind (wpAny_bind ?_)
  refine wpAny_ite ?_
  rw [if_pos (show ([] : List (Str × Sem Value)).isEmpty = true from rfl)]
  refine wpAny_pure ?_
  refine wpAny_bind (wpAny_mono h (fun v s1 h1 => ?_) fun _ _ z => z)
  obtain ⟨a, vs, rfl, hne, haS, hd, ha, hs, hz, q⟩ := h1
  refine wpAny_bind (wpAny_onRaise (wpAny_holding (wpAny_tryCatch (wpAny_onRaise (wp_merge hne haS hd ha hz fun h' hd' hs' => ?_)))))
  refine wpAny_pure ?_
  dsimp only
  rw [List.forIn_nil]
  refine wpAny_pure ?_
  refine wpAny_ite ?_
  rw [if_pos (show ([] : List (Str × Sem Value)).isEmpty = true from rfl)]
  refine wpAny_pure (wpAny_pure ?_)
  refine wpAny_bind (wpAny_pure ?_)
  refine wpAny_bind (wpAny_holding (wp_kwIn hd' hs ?_))
  exact wpAny_pure (q h' hd' hs')
end
end KwX
namespace KwX
open PySem PySem.Spec PyProof.Rows L2
theorem kw_call {M : Model} {A : Around} {E : Value → Shared → Prop} {s : Shared} {f : Value} {first : List Value} {pos : Pos} {Q : Value → Shared → Prop} {P : Heap → Prop} {x : Sem Value}
    (hk : ∀ h, P h → ∃ k, (k = Keeper.frame ∨ k = Keeper.machine ∨ k = Keeper.boundFrame) ∧ PySem.W.Looks M h (keeperOf f) k)
    (h : wpAny M A (evalArgs f true [] [(none, x)]) (fun a s₁ => P s₁.heap ∧ wpAny M A (call f (first ++ a.pos) a.kw) Q E s₁) E s) : wpAny M A (callWith pos f first [] [(none, x)]) Q E s := by
  unfold callWith
  refine wpAny_bind (wpAny_holding (wpAny_mono h (fun a s₁ h₁ => wpAny_bind (wpAny_standAt ?_)) fun _ _ x => x))
  obtain ⟨k, hk', L⟩ := hk _ h₁.1
  refine wpAny_bind (L.here ?_)
  have tail : ∀ {t : Sem Value}, wpAny M A t Q E s₁ → wpAny M A (t >>= fun r => holding [r] point >>= fun _ => pure r) Q E s₁ :=
    fun ht => wpAny_bind (wpAny_mono ht (fun r s₂ hr => wpAny_bind (wpAny_holding (wpAny_point (wpAny_pure hr)))) fun _ _ x => x)
  have marked (mk : Value) : wpAny M A (callMarked mk f (first ++ a.pos) a.kw) Q E s₁ := by unfold callMarked; exact Calls.wpAny_keep h₁.2
  rcases hk' with rfl | rfl | rfl <;> dsimp only <;> first | exact tail (marked _) | exact tail (wpAny_operateT h₁.2) | exact tail h₁.2
section
variable {P : Program} {w : World} {K : PySem.W.Frag} {mg : Str → Option Value} {base : Heap} {A : Around} {outer : List Env} {s : Shared} {H : Hp}
theorem env0_laid2 {a : Addr} {o : HO} {h' : Heap} {t' : Nat} (e0 : Env0 P w K mg base A outer s H) (kp : ∀ b u, s.heap.get? b = some u → h'.get? b = some u) (hp : s.heap.objs.size ≤ a) (new : ObjOk P w (upd H a o) h' a o) :
    Env0 P w K mg base A outer { s with heap := h', toks := t' } (upd H a o) := by
  refine ⟨e0.frames, e0.mod, fun b x e => ⟨kp b x (e0.bs b x e).1, ?_⟩, ?_, Heap.FunFrames.of_keeps (fun b x e _ => ⟨x, kp b x e, rfl⟩) e0.funs, fun b hb => ?_, e0.hok.laid kp hp new, e0.bare⟩
  · rw [upd_ne (Nat.ne_of_lt (Nat.lt_of_lt_of_le (Heap.lt_size (e0.bs b x e).1) hp))]
    exact (e0.bs b x e).2
  · exact Nat.le_of_lt (Nat.lt_of_le_of_lt (Nat.le_trans e0.bsz hp) new.lt)
  · obtain ⟨_, x, hx, _⟩ := e0.funs.mem hb
    rw [upd_ne (Nat.ne_of_lt (Nat.lt_of_lt_of_le (Heap.lt_size hx) hp))]
    exact e0.frf b hb
/-- a def f(a, **d) called with keywords -/
def FnKw (P : Program) (w : World) (K : PySem.W.Frag) (mg : Str → Option Value) (base : Heap) (k : Nat) (f : Addr) (sp : Sp) : Prop :=
  ∀ (A : Around) (outer : List Env) (s : Shared) (H : Hp) (v : V) (u : Value) (kvs : List (Key × V)) (vs : List (Key × Value)) (Q : VK) (E : XK), Room k A → Env0 P w K mg base A outer s H → RelV v u → KV kvs vs →
    (∀ p ∈ vs, ∃ x, p.1 = Sum.inr x ∧ (x == ("this_book" : Str)) = false) → (vs.map (·.1)).Nodup → kvs.length ≤ 1000 → (∀ d, H d = none → sp [v, .ref d] (upd H d (.dK kvs)) Q E) →
    codeAny (model P w) A (.call (.ref f) ⟨[u], vs.map fun p => (nm p.1, p.2)⟩) (CR CX0 outer P w H s Q E) s
theorem pairs_kw : ∀ (vs : List (Key × Value)) (t : Tok), (∀ p ∈ vs, ∃ x, p.1 = Sum.inr x ∧ (x == ("this_book" : Str)) = false) → Pairs (mixKind P w) (PySem.W.kwEs w.params t (vs.map fun p => (nm p.1, p.2))) vs
  | [], _, _ => Pairs.nil
  | p :: r, t, h => by
    obtain ⟨x, e, _⟩ := h p (.head _)
    refine Pairs.cons ?_ rfl (pairs_kw r (t + 1) fun q hq => h q (.tail _ hq))
    show keyIs p.1 (.str (nm p.1) t) = true
    rw [e]
    exact keyIs_str x t
theorem keys_kw : ∀ (vs : List (Key × Value)), (∀ p ∈ vs, ∃ x, p.1 = Sum.inr x ∧ (x == ("this_book" : Str)) = false) → vs.map (·.1) = (vs.map fun p => nm p.1).map Sum.inr
  | [], _ => rfl
  | p :: r, h => by
    obtain ⟨x, e, _⟩ := h p (.head _)
    rw [List.map_cons, List.map_cons, List.map_cons, keys_kw r fun q hq => h q (.tail _ hq), e]
    rfl
theorem fn_kw {x qual : Str} {st : Stmt} {f : Addr} {fd : FuncData} {N : List Str} {k : Nat} {sp : Sp} {q1 q2 : Pos} (F : Fun K x qual st f fd) (S : FnScope N ["this_book", "commands"] (defScope st))
    (hA : defArgs st = { posonlyargs := [], args := [{ arg := "this_book", annotation := none, pos := q1 }], vararg := none, kwonlyargs := [], kw_defaults := [], kwarg := some { arg := "commands", annotation := none, pos := q2 }, defaults := [] })
    (hbody : ∀ (cdv : Value) (A : Around) (outer : List Env) (s : Shared) (H : Hp) (vs : List V) (Q : VK) (E : XK), Room k (A.deeper (envOfC qual (defScope st) s.heap.objs.size f cdv)) → sp vs H Q E →
      ∃ t, PSs (cxOf CX0 P w K mg base N qual (defScope st) f cdv A outer s H E).nox (defBody st) t ∧ t { nx := fun _ H' => Q .non H', rt := Q } (start N vs) H) : FnKw P w K mg base (k + 1) f sp := by
  intro A outer s H v u kvs vs Q E hr e0 rv rk hs hn hz hsp
  obtain ⟨oc, od, kV, doc, pm, an, cdv, ct, osl, rfl, lk, hcd⟩ := F.ex
  have el : kvs.length = vs.length := rk.length
  refine StX.run_bnd lk hcd S hr e0 (G := fun xs H2 => ∃ d, H d = Option.none ∧ xs = [v, V.ref d] ∧ H2 = upd H d (.dK kvs)) (fun A' Ex Q' h => ?_) fun s2 H2 xs ⟨d, hd, ex, eH⟩ hr' => ?_
  · rw [hA, bind_kw _ (fun q hq => ?_) (by rw [List.length_map, ← el]; exact hz)]
    · refine wpAny_bind (wpAny_alloc ?_)
      have D0 : (s.heap.push ({ cls := .type "dict", data := .dict #[] } : Obj)).get? s.heap.objs.size = some (PySem.W.dictOf [] 0) := Heap.get?_push_size _ rfl
      have k1 : ∀ b o, s.heap.get? b = some o → (s.heap.push ({ cls := .type "dict", data := .dict #[] } : Obj)).get? b = some o := fun b o e => Heap.get?_push_of_some _ e
      have hn2 : ((vs.map fun p => (nm p.1, p.2)).map (·.1)).Nodup := by
        rw [List.map_map]
        show (vs.map fun p => nm p.1).Nodup
        rw [keys_kw vs hs] at hn
        exact (List.pairwise_map.mp hn).imp fun h e => h (congrArg Sum.inr e)
      refine wpAny_bind (ns_fill (vs.map fun p => (nm p.1, p.2)) _ [] 0 D0 (fun _ z => by cases z) (fun _ z => by cases z) hn2 fun h' D' S' => wpAny_pure ?_)
      have kp : ∀ b o, s.heap.get? b = some o → h'.get? b = some o := fun b o e => (S'.2 b (Nat.ne_of_lt (Heap.lt_size e))).trans (k1 b o e)
      have hd : H s.heap.objs.size = Option.none := e0.hok.fresh (Nat.le_refl _)
      have new : ObjOk P w (upd H s.heap.objs.size (.dK kvs)) h' s.heap.objs.size (.dK kvs) := by
        refine ⟨Nat.le_trans hz (by decide), ?_, vs, rk, _, _, _, D', ⟨rfl, rfl, rfl⟩, rfl, fun e he => ?_, ?_, hn⟩
        · have := StX.env0_big e0
          exact beq_eq_false_iff_ne.mpr (Nat.ne_of_gt this)
        · obtain ⟨k', t', hk', hh'⟩ := PySem.W.kwEs_key _ _ e (List.mem_toArray.mp he)
          exact ⟨Sum.inr k', by rw [hk']; exact keyIs_str k' t', hh'.trans rfl⟩
        · exact pairs_kw vs _ hs
      refine h { s with heap := h', toks := _ } (upd H s.heap.objs.size (.dK kvs)) [v, V.ref s.heap.objs.size] [u, Value.ref s.heap.objs.size] (env0_laid2 (s := s) e0 kp (Nat.le_refl _) new) (Un.laid kp (Nat.le_refl _) hd) rfl (fun _ _ z => z) (.cons rv (.cons rfl .nil)) rfl ⟨_, hd, rfl, rfl⟩
    · obtain ⟨p, hp, e⟩ := List.mem_map.mp hq
      obtain ⟨y, e1, e2⟩ := hs p hp
      rw [← e]
      show (nm p.1 == _) = false
      rw [e1]
      exact e2
  · subst ex eH
    obtain ⟨t, h, q⟩ := hbody cdv A outer s2 _ _ Q E hr' (hsp d hd)
    exact ⟨t, h.nox, q⟩
end
end KwX
namespace KwX
open PySem PySem.Spec PyProof.Rows L2
/-- C(**e), C in a local name, e a dict with text keys -/
def tMakeKw (C : Addr) (sp : Sp) (E : XK) (tf te : TE) : TE := fun σ H Q => tf σ H fun c H1 => c = .ref C ∧ ∀ d, H1 d = none → te σ (upd H1 d (.dK [])) fun x H2 => ∃ a kvs, x = .ref a ∧ a ≠ d ∧ H2 d = some (.dK []) ∧ Rd H2 a (.dK kvs) ∧
  (∀ p ∈ kvs, ∃ y, p.1 = Sum.inr y ∧ (y == ("this_book" : Str)) = false) ∧ kvs.length ≤ 1000 ∧
  ∀ y dx d2, (upd H2 d (.dK kvs)) y = none → (upd H2 d (.dK kvs)) dx = none → dx ≠ y → (upd (upd (upd H2 d (.dK kvs)) dx (.own y)) y (.ins C dx [])) d2 = none →
    sp [.ref y, .ref d2] (upd (upd (upd (upd H2 d (.dK kvs)) dx (.own y)) y (.ins C dx [])) d2 (.dK kvs)) (fun v H4 => v = .non ∧ Q (.ref y) H4) E
section
variable {X : Cx} {k : Nat} {C f : Addr} {sp : Sp} {E : XK}
theorem pe_makeKw {x : Str} {e : Expr} {tf te : TE} {p pos kp : Pos} (M : Mk X.K C f) (F : FnKw X.prog X.w X.K X.mg X.base k f sp) (hr : Room (k + 1) X.A) (hf : PE X (.Name x p) tf) (he : PE X e te) :
    PE X (.Call (.Name x p) [] [⟨none, e, kp⟩] pos) (tMakeKw C sp E tf te) := by
  refine ⟨fun pins s σ H Q I h => ?_⟩
  refine wpAny_Call_Name_kw (thn (hf.run pins s σ H _ I h) fun u s1 ⟨c, H1, I1, rc, ec, q⟩ => ?_)
  subst ec
  obtain rfl : u = Value.ref C := rc
  show wpAny _ _ (callWith pos (.ref C) [] [] [(none, (do let v ← eval e X.env; standAt pos; pure v))]) _ _ _
  have hd1 : H1 s1.heap.objs.size = none := I1.hok.fresh (Nat.le_refl _)
  have big := StX.env0_big I1.env0
  have I2 : Inv X pins σ (upd H1 s1.heap.objs.size (.dK [])) { s1 with heap := s1.heap.push ({ cls := .type "dict", data := .dict #[] } : Obj) } :=
    I1.laid (t' := s1.toks) (fun b u e => Heap.get?_push_of_some _ e) (Nat.le_refl _) (dk_empty _ big)
  refine kw_call (P := fun h => X.K.In h) (PySem.W.keeps_K M.kp) (wp_kwargs big (wpAny_bind (thn (he.run pins _ σ _ _ I2 (q _ hd1)) fun v s2 hh => wpAny_bind (wpAny_standAt (wpAny_pure ?_)))))
  obtain ⟨x, H2, I3, rx, a, kvs, ex, hne, hd2, hrd, hks, hz, q2⟩ := hh
  subst ex
  obtain rfl : v = Value.ref a := rx
  obtain ⟨z, lo, vs, rel, dd⟩ := dk_rd I3.hok hrd
  obtain ⟨_, lod, vs0, rel0, dd0⟩ := dk_of I3.hok hd2
  have e0 : vs0 = [] := by cases rel0; rfl
  subst e0
  have hks' : ∀ p ∈ vs, ∃ y, p.1 = Sum.inr y ∧ (y == ("this_book" : Str)) = false := fun p hp => by
    have : p.1 ∈ vs.map (·.1) := List.mem_map_of_mem hp
    rw [← rel.keys] at this
    obtain ⟨q', hq', e⟩ := List.mem_map.mp this
    rw [← e]
    exact hks q' hq'
  have hn : (vs.map (·.1)).Nodup := by
    obtain ⟨_, _, _, _, _, _, _, _, hn⟩ := dd
    exact hn
  refine ⟨a, vs, rfl, Ne.symm hne, lo, dd0, dd, (fun p hp => let ⟨y, e, _⟩ := hks' p hp; ⟨y, e⟩), by rw [← rel.length]; exact hz, fun h' hd' hs' => ?_⟩
  have I4 : Inv X pins σ (upd H2 s1.heap.objs.size (.dK kvs)) { s2 with heap := h' } :=
    I3.write (t' := s2.toks) (by rw [hd2]; trivial) (.inl rfl) (fun b u hb e => (hs'.2 b hb).trans e) (by obtain ⟨o, _, _, ho, _⟩ := hd'; exact ⟨o, ho⟩) ⟨z, lod, vs, rel, hd'⟩
  refine ⟨I4.kIn, ?_⟩
  have hq := q2 (h'.objs.size + 1) h'.objs.size
  have I5 := Inv.made (C := C) I4
  refine wpAny_call (make_map (f := f) I4.kIn M.makes M.init (beq_iff_eq.mp M.fn) (codeAny_mono (F _ X.stack _ _ (.ref (h'.objs.size + 1)) (Value.ref (h'.objs.size + 1)) kvs vs _ E (hr.make C [] (vs.map fun p => (nm p.1, p.2))) (I5.env0.make C [] (vs.map fun p => (nm p.1, p.2))) rfl rel hks' hn hz
    fun d2 hd2' => hq d2 (I4.hok.fresh (Nat.le_succ _)) (I4.hok.fresh (Nat.le_refl _)) (Nat.ne_of_lt (Nat.lt_succ_self _)) hd2') fun r s' hq' => ?_))
  cases r with
  | error e => exact False.elim hq'
  | ok fl =>
    cases fl with
    | ret u =>
      obtain ⟨v, H', I6, rv, ev, q3⟩ := I5.after hq'
      subst ev
      exact ⟨rv, ⟨V.ref (h'.objs.size + 1), H', I6, rfl, q3⟩⟩
    | next => exact False.elim hq'
    | brk => exact False.elim hq'
    | cont => exact False.elim hq'
end
end KwX
namespace KwX
open PySem PySem.Spec PyProof.Rows L2 PySem.W
section
variable {prog : Program} {w : World} {A : Around} {E : Value → Shared → Prop} {s : Shared} {T : String} {r d : Addr} {n : Nat} {P : Nat → Value → Prop} {OK : Heap → Prop}
theorem collect_kdl {Q : List Value → Shared → Prop} (K : KdlSrc prog w T r d n P OK) (hh : A.handled = none) (hok : OK s.heap) (hn : n ≤ sizeLine)
    (hQ : ∀ (h' : Heap) (tk : Nat) (acc : Array Value), (∀ b o, s.heap.get? b = some o → h'.get? b = some o) → ItemsOf P acc n → Q acc.toList { s with heap := h', toks := tk }) :
    wpAny (model prog w) A (collect (.ref r)) Q E s := by
  unfold collect
  refine wpAny_bind (wpAny_runValue (codeAny_builtin F.entry_proto_collect ?_))
  rw [Around.under_plainId F.plain_proto_collect _]
  show wpAny _ A.in1 (newList [] >>= fun l => again (.builtin "list.__iadd__" ⟨[l, .ref r], []⟩)) _ _ s
  refine wpAny_bind (wpAny_newObj_type ?_)
  refine wpAny_pure ⟨plainId_quiet F.plain_list_iadd _, codeAny_builtin F.entry_list_iadd ?_⟩
  rw [Around.under_plainId F.plain_list_iadd _]
  show wpAny _ A.in1 (Builtin.List.listExtendWith (.ref s.heap.objs.size) (.ref r) (.ref s.heap.objs.size)) _ _ _
  have hS : (s.heap.push { cls := .type "list", data := .seq ([] : List Value).toArray }).get? s.heap.objs.size = some { cls := .type "list", data := .seq #[] 0 } := Heap.get?_push_size _ rfl
  have hlt := K.there _ hok
  refine wpAny_mono (kdl_extend (A := A) (R := fun rr s' => rr = .ok (.ret (.ref s.heap.objs.size)) ∧ ∃ (h' : Heap) (tk : Nat) (acc : Array Value) (c' : Nat), s' = { s with heap := h', toks := tk } ∧
      (∀ b o, s.heap.get? b = some o → h'.get? b = some o) ∧ h'.get? s.heap.objs.size = some { cls := .type "list", dict := none, data := .seq acc c', slots := #[] } ∧ ItemsOf P acc n)
    (s := { s with heap := s.heap.push { cls := .type "list", data := .seq ([] : List Value).toArray } }) K hh (K.keep _ _ hok fun b _ o e => Heap.get?_push_of_some _ e) s.heap.objs.size (Nat.ne_of_gt hlt.1) (Nat.ne_of_gt hlt.2) _ 0 hS
    (fun h' tk acc c' hk e hi => ⟨rfl, h', tk, acc, c', rfl, fun b o q => hk b o (Nat.ne_of_lt (Heap.lt_size q)) (Heap.get?_push_of_some _ q), e, hi⟩) hn) (fun fin s' h => ?_) (fun e s' h => ?_)
  · cases fin with
    | done f =>
      obtain ⟨e, h', tk, acc, c', rfl, hk, hS', hi⟩ := h
      cases e
      show wpAny _ A (load s.heap.objs.size >>= _) _ _ _
      exact wpAny_bind (wpAny_load hS' (wpAny_pure (hQ h' tk acc hk hi)))
    | again c' =>
      refine ⟨h.1, codeAny_mono h.2 fun rr s'' hr' => ?_⟩
      obtain ⟨rfl, h', tk, acc, c', rfl, hk, hS', hi⟩ := hr'
      show wpAny _ A (load s.heap.objs.size >>= _) _ _ _
      exact wpAny_bind (wpAny_load hS' (wpAny_pure (hQ h' tk acc hk hi)))
  · exact absurd h.1 (by simp)
theorem code_tuple_new_kdl {Q₁ : Value → Shared → Prop} (K : KdlSrc prog w "dict" r d n P OK) (hh : A.handled = none) (hok : OK s.heap) (hn : n ≤ sizeLine)
    (h : ∀ (h' : Heap) (tk : Nat) (acc : Array Value), (∀ b o, s.heap.get? b = some o → h'.get? b = some o) → ItemsOf P acc n →
      Q₁ (.ref h'.objs.size) { s with heap := h'.push { cls := .type "tuple", data := .seq acc }, toks := tk }) :
    codeAny (model prog w) A (.call (.builtin "tuple.__new__") ⟨[.type "tuple", .ref r], []⟩) (wants Q₁ E) s := by
  refine codeAny_of_tree ?_
  show wpAny _ A.in1 (do checkBuiltinCall "tuple.__new__" ⟨[.type "tuple", .ref r], []⟩; again (.builtin "tuple.__new__" ⟨[.type "tuple", .ref r], []⟩)) _ _ s
  refine wpAny_bind (wpAny_of_eq (F.newCall_tuple_1 _) (wpAny_pure ⟨plainId_quiet F.plain_tuple_new _, codeAny_builtin F.entry_tuple_new ?_⟩))
  rw [Around.under_plainId F.plain_tuple_new _]
  have hsub := sub_tuple_self
  have hinit := init_tuple_lookup
  have hmh := madeHere_tuple
  have hTI : s.TypeIs (.ref r) "dict" := K.type s hok
  have hh1 : A.in1.handled = none := hh
  wp_walk using wpAny_typeOf hTI, collect_kdl (A := A.in1) K hh1 hok hn
  intro h' tk acc hk hacc
  show wpAny _ _ (Builtin.Tuple.tupleExact acc.toList.toArray >>= fun v => ret v) _ _ _
  unfold Builtin.Tuple.tupleExact
  refine wpAny_bind (wpAny_newObj_type ?_ (by show acc.toList.toArray.size ≤ sizeLine; simp only [Array.toArray_toList]; rw [hacc.1]; exact hn))
  refine wpAny_pure ?_
  have e : acc.toList.toArray = acc := by simp
  rw [e]
  exact h h' tk acc hk hacc
theorem call_tuple_kdl {Q : Value → Shared → Prop} (K : KdlSrc prog w "dict" r d n P OK) (hh : A.handled = none) (hok : OK s.heap) (hn : n ≤ sizeLine)
    (hQ : ∀ (h' : Heap) (tk : Nat) (acc : Array Value), (∀ b o, s.heap.get? b = some o → h'.get? b = some o) → ItemsOf P acc n →
      Q (.ref h'.objs.size) { s with heap := h'.push { cls := .type "tuple", data := .seq acc }, toks := tk }) :
    wpAny (model prog w) A (call (.type "tuple") [.ref r]) Q E s := by
  refine callType_codes (Q₁ := fun obj s₁ => s₁.TypeIs obj "tuple" ∧ Q obj s₁) F.called_tuple (F.typeCall_tuple_1 _) F.entry_object_init
    (code_tuple_new_kdl (A := A.in1) K hh hok hn fun h' tk acc hk hacc => ⟨⟨_, Heap.get?_push_size _ rfl, rfl⟩, hQ h' tk acc hk hacc⟩) fun obj s₁ h₁ => ?_
  exact ⟨h₁.1, F.args_object_init_2 obj _, object_init_meets F.called_tuple.init.lookup F.called_tuple.made (by decide) prog w A.in1 _ s₁ ⟨h₁.1, rfl, h₁.2⟩⟩
end
/-- tuple(d): its keys -/
theorem call_tupleD {X : Cx} (hcalm : X.calm = true) : CallR X (.type "tuple") (fun xs H Q => ∃ (a : Addr) (kvs : List (Key × V)), xs = [.ref a] ∧ Rd H a (.dK kvs) ∧ ∀ p, H p = none → Q (.ref p) (upd H p (.tup (kvs.map fun kv => kV kv.1)))) := by
  intro pins s σ H xs us Q I r q
  obtain ⟨a, kvs, ex, hd, q⟩ := q
  subst ex
  obtain ⟨u, eu, rx⟩ := vals1 r
  subst eu
  cases rx
  obtain ⟨z, lo, vs, rel, dd⟩ := dk_rd I.hok hd
  obtain ⟨ep, hat⟩ := dd.dictAt
  have ek : (kvs.map fun kv => kV kv.1) = vs.map fun p => kV p.1 := by
    have e := congrArg (List.map kV) rel.keys
    rw [List.map_map, List.map_map] at e
    exact e
  refine call_tuple_kdl (PySem.W.kdl_dict (knd := mixKind X.prog X.w) (kvs := vs) (ep := ep) lo) (I.ok.hd hcalm) hat (by rw [← rel.length]; exact z) fun h' tk acc hk hacc => ?_
  have hv : Vals (vs.map fun p => kV p.1) acc.toList := keys_at (by rw [Array.length_toList]; exact hacc.1) fun j v e => hacc.2 j v (by rw [← Array.getElem?_toList]; exact e)
  have I2 : Inv X pins σ H { s with heap := h', toks := tk } := I.kept hk
  refine ⟨.ref h'.objs.size, upd H h'.objs.size (.tup (kvs.map fun kv => kV kv.1)), I2.laid (t' := tk) (fun c o e => Heap.get?_push_of_some _ e) (Nat.le_refl _)
    (show ObjOk X.prog X.w _ _ _ (.tup (kvs.map fun kv => kV kv.1)) from ⟨by rw [List.length_map]; exact z, acc.toList, by rw [ek]; exact hv, by rw [Array.toArray_toList]; exact IsTup.new _ _⟩), rfl, q _ (I2.hok.fresh (Nat.le_refl _))⟩
end KwX
namespace KwX
open PySem PySem.Spec PyProof.Rows L2
/-! a power of written numbers -/
def CPowB (i j : Int) : Prop := 0 ≤ j ∧ (Builtin.Int.intBits i : Int) * j ≤ 2 ^ 27
theorem op_powB {X : Cx} : OpR X (binaryOp .Pow) (rI CPowB fun i j => .int (i ^ j.toNat)) := opI fun _ _ _ _ _ _ _ hc q => pow_int hc.1 hc.2 q
/-! a def of the module, under its name; a method -/
structure Fn (K : PySem.W.Frag) (mg : Str → Option Value) (x nm qual : Str) (st : Stmt) (ps : List Str) : Prop where
  ex : ∃ (f : Addr) (fd : FuncData), Fun K nm qual st f fd ∧ mg x = some (.ref f) ∧ Binds K fd ps []
structure Mt (K : PySem.W.Frag) (C : Addr) (m qual : Str) (st : Stmt) (ps : List Str) : Prop where
  ex : ∃ (f : Addr) (fd : FuncData), Fun K m qual st f fd ∧ Meth K C m f ∧ Binds K fd ps []
/-- what a caller needs of it -/
def Cl (P : Program) (w : World) (K : PySem.W.Frag) (mg : Str → Option Value) (base : Heap) (CX : CXT) (k : Nat) (x : Str) (ps : List Str) (sp : Sp) : Prop :=
  ∃ (f : Addr) (fd : FuncData), FnOk P w K mg base CX k f fd ps sp ∧ mg x = some (.ref f) ∧ PySem.W.keepIn K (.ref f) = true ∧ Binds K fd ps []
def Ml (P : Program) (w : World) (K : PySem.W.Frag) (mg : Str → Option Value) (base : Heap) (CX : CXT) (k : Nat) (C : Addr) (m : Str) (ps : List Str) (sp : Sp) : Prop :=
  ∃ (f : Addr) (fd : FuncData), FnOk P w K mg base CX k f fd ps sp ∧ Meth K C m f ∧ Binds K fd ps []
theorem Fn.cl {P : Program} {w : World} {K : PySem.W.Frag} {mg : Str → Option Value} {base : Heap} {CX : CXT} {k : Nat} {x nm qual : Str} {st : Stmt} {ps : List Str} {sp : Sp} (F : Fn K mg x nm qual st ps)
    (h : ∀ (f : Addr) (fd : FuncData), Fun K nm qual st f fd → FnOk P w K mg base CX k f fd ps sp) : Cl P w K mg base CX k x ps sp := by
  obtain ⟨f, fd, a, b, c⟩ := F.ex
  exact ⟨f, fd, h f fd a, b, a.kp, c⟩
theorem Mt.ml {P : Program} {w : World} {K : PySem.W.Frag} {mg : Str → Option Value} {base : Heap} {CX : CXT} {k : Nat} {C : Addr} {m qual : Str} {st : Stmt} {ps : List Str} {sp : Sp} (F : Mt K C m qual st ps)
    (h : ∀ (f : Addr) (fd : FuncData), Fun K m qual st f fd → FnOk P w K mg base CX k f fd ps sp) : Ml P w K mg base CX k C m ps sp := by
  obtain ⟨f, fd, a, b, c⟩ := F.ex
  exact ⟨f, fd, h f fd a, b, c⟩
section
variable {X : Cx} {j k : Nat} {x m : Str} {ps : List Str} {sp : Sp} {e o : Expr} {es : List Expr} {t : TA} {ta tf : TE} {p pos apos : Pos} {C : Addr}
/-- f(e, ..), nothing raised -/
theorem pc0 (c : Cl X.prog X.w X.K X.mg X.base CX0 k x ps sp) (hr : Room j X.A) (ha : PA X (e :: es) t) (hk : k ≤ j := by decide) (hg : Gl X x := by rfl) (hd : (x == ("__debug__" : Str)) = false := by decide)
    (he : starEach (e :: es) X.env = (false, eval e X.env) :: starEach es X.env := by rfl) (hpl : (backTo pos (starEach es X.env)).any (·.1) = false := by rfl) :
    PE X (.Call (.Name x p) (e :: es) [] pos) (tCall sp [] E0 t) := by
  obtain ⟨f, fd, F, h1, h2, h3⟩ := c
  exact pe_call F (hr.mono hk) hg h1 h2 h3 .nil pass0 ha hd he hpl
theorem pc00 (c : Cl X.prog X.w X.K X.mg X.base CX0 k x ps sp) (hr : Room j X.A) (hk : k ≤ j := by decide) (hg : Gl X x := by rfl) (hd : (x == ("__debug__" : Str)) = false := by decide) :
    PE X (.Call (.Name x p) [] [] pos) (tCall sp [] E0 tNil) := by
  obtain ⟨f, fd, F, h1, h2, h3⟩ := c
  exact pe_call0 F (hr.mono hk) hg h1 h2 h3 .nil pass0 hd
/-- o.m(e, ..), nothing raised -/
theorem pm0 (c : Ml X.prog X.w X.K X.mg X.base CX0 k C m ps sp) (cl : Cls X.K C) (hr : Room j X.A) (ho : PE X o ta) (ha : PA X (e :: es) t) {pl : Sem Bool} (hk : k ≤ j := by decide)
    (hst : starEach (e :: es) X.env = (false, eval e X.env) :: starEach es X.env := by rfl) (hpl : (backTo pos (starEach es X.env)).any (·.1) = false := by rfl)
    (ht : eval (.Call (.Attribute o m apos) (e :: es) [] pos) X.env = (do
      let ov ← eval o X.env
      standAt apos.atName
      let (f, first) ← holding [ov] (getMethod ov m pl)
      callWith pos f first (backTo pos (starEach (e :: es) X.env)) (backToKw pos (keywordEach [] X.env))) := by rfl) :
    PE X (.Call (.Attribute o m apos) (e :: es) [] pos) (tMeth C m sp [] E0 ta t) := by
  obtain ⟨f, fd, F, h1, h2⟩ := c
  exact pe_meth ho cl h1 F (hr.mono hk) h2 .nil pass0 ha (pl := pl) (hst := hst) (hpl := hpl) (ht := ht)
end
/-! what is raised, wished for at the caller's slots -/
section
variable {X : Cx} {CX : CXT} {k j : Nat} {f C : Addr} {fd : FuncData} {ps : List Str} {sp : Sp} {E : L2.St → XK} {x m : Str} {p pos apos : Pos} {e o fe : Expr} {es : List Expr} {ta tf : TE} {t : TA}
/-- o.m(e, ..) -/
def tMethW (C : Addr) (m : Str) (sp : Sp) (E : L2.St → XK) (ta : TE) (t : TA) : TE := fun σ H Q => ta σ H fun x H1 => ∃ a dx fs, x = .ref a ∧ H1 a = some (.ins C dx fs) ∧ fs.lookup m = none ∧
  t σ H1 fun vs H2 => sp (x :: vs) H2 Q (E σ)
theorem pe_methW (c : Ml X.prog X.w X.K X.mg X.base CX k C m ps sp) (cl : Cls X.K C) (hr : Room j X.A) (hx : ∀ σ, PassesAt CX X σ (E σ)) (ho : PE X o ta) (ha : PA X (e :: es) t) {pl : Sem Bool} (hk : k ≤ j := by decide)
    (hst : starEach (e :: es) X.env = (false, eval e X.env) :: starEach es X.env := by rfl) (hpl : (backTo pos (starEach es X.env)).any (·.1) = false := by rfl)
    (ht : eval (.Call (.Attribute o m apos) (e :: es) [] pos) X.env = (do
      let ov ← eval o X.env
      standAt apos.atName
      let (f, first) ← holding [ov] (getMethod ov m pl)
      callWith pos f first (backTo pos (starEach (e :: es) X.env)) (backToKw pos (keywordEach [] X.env))) := by rfl) :
    PE X (.Call (.Attribute o m apos) (e :: es) [] pos) (tMethW C m sp E ta t) := by
  obtain ⟨f, fd, F, hm, hb⟩ := c
  refine ⟨fun pins s σ H Q I h => ?_⟩
  refine PySem.W.methodCall_KW (pl := pl) (thn (ho.run pins s σ H _ I h) fun u s1 ⟨x, H1, I1, rx, a, dx, fs, ex, ea, l, q⟩ => ?_) ht
  subst ex
  obtain rfl : u = Value.ref a := rx
  refine getmeth_ok I1 ea cl hm l ?_
  refine PySem.W.callWith_K (first := [.ref a]) (h₀ := X.base) I.ok.mod.kin hm.kp (thn (ha.run pos pins s1 σ H1 _ I1 q) fun us s2 ⟨vs, H2, I2, r, q2⟩ => ⟨I2.kIn, ?_⟩) hst hpl
  exact run_fnS (us := .ref a :: us) (vs := .ref a :: vs) F (hr.mono hk) hb (hx σ) I2 (.cons rfl r) q2
/-- an instance of C called: what is wanted of the def __call__ -/
def Ol (P : Program) (w : World) (K : PySem.W.Frag) (mg : Str → Option Value) (base : Heap) (CX : CXT) (k : Nat) (C : Addr) (ps : List Str) (sp : Sp) : Prop :=
  ∃ (f : Addr) (fd : FuncData), FnOk P w K mg base CX k f fd ps sp ∧ StX.CallO K C f ∧ Binds K fd ps []
def tCallOW (C : Addr) (sp : Sp) (E : L2.St → XK) (tf : TE) (t : TA) : TE := fun σ H Q => tf σ H fun y H1 => ∃ a, y = V.ref a ∧ t σ H1 fun vs H2 => (∃ dx fs, H2 a = some (.ins C dx fs)) ∧ sp (V.ref a :: vs) H2 Q (E σ)
theorem pe_callOW (c : Ol X.prog X.w X.K X.mg X.base CX k C ps sp) (hr : Room j X.A) (hx : ∀ σ, PassesAt CX X σ (E σ)) (hf : PE X fe tf) (ha : PA X (e :: es) t) (hk : k ≤ j := by decide)
    (ht : eval (.Call fe (e :: es) [] pos) X.env = (do callWith pos (← eval fe X.env) [] (backTo pos (starEach (e :: es) X.env)) (backToKw pos (keywordEach [] X.env))) := by rfl)
    (he : starEach (e :: es) X.env = (false, eval e X.env) :: starEach es X.env := by rfl) (hpl : (backTo pos (starEach es X.env)).any (·.1) = false := by rfl) : PE X (.Call fe (e :: es) [] pos) (tCallOW C sp E tf t) := by
  obtain ⟨g, fd, F, co, hb⟩ := c
  refine ⟨fun pins s σ H Q I h => ?_⟩
  refine Call_ (thn (hf.run pins s σ H _ I h) fun u s1 ⟨y, H1, I1, ry, a, ey, q⟩ => ?_) ht
  subst ey
  obtain rfl : u = Value.ref a := ry
  refine StX.callO_with (thn (ha.run pos pins s1 σ H1 _ I1 q) fun us s2 ⟨vs, H2, I2, r, hi, q2⟩ => ?_) he hpl
  obtain ⟨ox, od, J, hd⟩ := StX.insC_at I2 (Or.inr hi)
  refine ⟨⟨C, ox, od, J, hd⟩, ?_⟩
  refine wpAny_call (PySem.W.kco_code I2.kIn J hd co.at_ co.fn co.fi ?_)
  have hl : (Value.ref a :: us).length = ps.length := by
    have := F.len _ _ _ _ q2
    rw [List.length_cons, ← r.length]
    exact this
  have b := hb s2 (Value.ref a :: us) I2.kIn (by rw [List.append_nil]; exact hl)
  rw [List.append_nil] at b
  refine codeAny_mono (F.run X.A X.stack s2 H2 ⟨Value.ref a :: us, []⟩ (Value.ref a :: us) (V.ref a :: vs) Q (E σ) (hr.mono hk) I2.env0 b (.cons rfl r) q2) fun r s' hq => ?_
  cases r with
  | error e => exact hx σ pins H2 s2 e s' I2 hq
  | ok fl =>
    cases fl with
    | ret u => exact I2.after hq
    | next => exact False.elim hq
    | brk => exact False.elim hq
    | cont => exact False.elim hq
/-- nothing is raised here: E is False -/
theorem passE0 {X : Cx} (σ : L2.St) : PassesAt (L2.CX X.prog X.w) X σ E0 := fun _ _ _ _ _ _ c => by
  obtain ⟨_, _, _, _, _, _, _, _, _, _, _, _, z⟩ := c
  exact z.elim
/-- from a def that may raise itself: handed on -/
theorem passT {X : Cx} {W : WX} (tk : Takes X W) (σ : L2.St) : PassesAt (L2.CX X.prog X.w) X σ (WE W σ) := passAt tk σ
end
end KwX
namespace Sk
open PySem L2 KwX
/-! ### the text by places -/
def topS (i : Nat) : Stmt := PySem.Challenge.pw_skipahead_k11_whole_works_of_servers.main.body.getD i (.Pass ⟨0, 0, 0, 0⟩)
abbrev cBook (j : Nat) : Stmt := inClass (topS 22) j
abbrev cServer (j : Nat) : Stmt := inClass (topS 40) j
/-! ### boot -/
theorem bt_len : bootBuiltins "len" = some (.builtin "len") := by decide +kernel
theorem bt_isi : bootBuiltins "isinstance" = some (.builtin "isinstance") := by decide +kernel
theorem bt_all : bootBuiltins "all" = some (.builtin "all") := by decide +kernel
theorem bt_sorted : bootBuiltins "sorted" = some (.builtin "sorted") := by decide +kernel
theorem bt_abs : bootBuiltins "abs" = some (.builtin "abs") := by decide +kernel
theorem bt_max : bootBuiltins "max" = some (.builtin "max") := by decide +kernel
theorem bt_min : bootBuiltins "min" = some (.builtin "min") := by decide +kernel
theorem bt_int : bootBuiltins "int" = some (.type "int") := by decide +kernel
theorem bt_str : bootBuiltins "str" = some (.type "str") := by decide +kernel
theorem bt_bool : bootBuiltins "bool" = some (.type "bool") := by decide +kernel
theorem bt_list : bootBuiltins "list" = some (.type "list") := by decide +kernel
theorem bt_tuple : bootBuiltins "tuple" = some (.type "tuple") := by decide +kernel
theorem bt_dict : bootBuiltins "dict" = some (.type "dict") := by decide +kernel
/-! ### a tuple of texts in the written part -/
def KTup (K : PySem.W.Frag) (mg : Str → Option Value) (x : Str) (ws : List Str) : Prop := ∃ a, mg x = some (.ref a) ∧ ∀ H, SqT K H a (ws.map V.str)
def reserved : List Str := ["failed", "kept", "skipped", "undone"]
def letters : Str := "abcdefghijklmnopqrstuvwxyz"
/-- an instance of C is an instance of C -/
structure InsK (K : PySem.W.Frag) (C : Addr) : Prop where
  ha : PySem.W.findIn K (.ref C) "__class__" = some (some (.builtin "object.__class__"))
  hn : PySem.W.specialIn K (.builtin "object.__class__") "__get__" = some (some (.builtin "getset_descriptor.__get__"))
  htk : PySem.W.takesIn K (.builtin "object.__class__") = some true
  hm : PySem.W.mroIn K C (.type "object") = some true
  me : PySem.W.kitOne K (.ref C) (.ref C) = some true
/-! ### what the top has written -/
structure Txt (K : PySem.W.Frag) (mg : Str → Option Value) (CB CS CI : Addr) : Prop where
  zlen : mg "len" = none
  zisi : mg "isinstance" = none
  zall : mg "all" = none
  zsorted : mg "sorted" = none
  zabs : mg "abs" = none
  zmax : mg "max" = none
  zmin : mg "min" = none
  zint : mg "int" = none
  zstr : mg "str" = none
  zbool : mg "bool" = none
  zlist : mg "list" = none
  ztuple : mg "tuple" = none
  zdict : mg "dict" = none
  zzip : mg "zip" = none
  zrange : mg "range" = none
  cLetters : ∃ t, mg "LETTERS" = some (.str letters t)
  cMaxL : ∃ t, mg "MAX_LETTERS" = some (.int 8 t)
  cMaxC : ∃ t, mg "MAX_COMMANDS" = some (.int 6 t)
  cMaxT : ∃ t, mg "MAX_TAKES" = some (.int 2 t)
  cMaxA : ∃ t, mg "MAX_ANSWERS" = some (.int 3 t)
  cMaxS : ∃ t, mg "MAX_STATES" = some (.int 12 t)
  cFailed : ∃ t, mg "FAILED" = some (.str "failed" t)
  cKept : ∃ t, mg "KEPT" = some (.str "kept" t)
  cReserved : KTup K mg "RESERVED" reserved
  cKeptE : KTup K mg "KEPT_ENTRY" ["kept"]
  -- the defs
  f_is_name : Fn K mg "is_name" "is_name" "is_name" (topS 5) ["value"]
  f_is_answer : Fn K mg "is_answer" "is_answer" "is_answer" (topS 6) ["value"]
  f_is_integer : Fn K mg "is_integer" "is_integer" "is_integer" (topS 7) ["value"]
  f_are_ascending : Fn K mg "are_ascending" "are_ascending" "are_ascending" (topS 8) ["items"]
  f_is_pair : Fn K mg "is_pair" "is_pair" "is_pair" (topS 20) ["value"]
  f_pairs_of : Fn K mg "pairs_of" "pairs_of" "pairs_of" (topS 21) ["commands"]
  f_is_command : Fn K mg "is_command" "is_command" "is_command" (topS 23) ["book", "value"]
  f_outcomes_in : Fn K mg "outcomes_in" "outcomes_in" "outcomes_in" (topS 24) ["book", "command"]
  f_require_book : Fn K mg "require_book" "require_book" "require_book" (topS 25) ["book"]
  f_require_command : Fn K mg "require_command" "require_command" "require_command" (topS 26) ["book", "command"]
  f_is_entry_line : Fn K mg "is_entry_line" "is_entry" "is_entry" (topS 29) ["book", "value", "numbers"]
  f_is_work : Fn K mg "is_work" "is_work" "is_work" (topS 31) ["book", "value"]
  f_is_state : Fn K mg "is_state" "is_state" "is_state" (topS 35) ["states", "value"]
  f_is_entry_servers : Fn K mg "is_entry_servers" "is_entry" "is_entry" (topS 36) ["book", "states", "key", "value"]
  f_are_entries : Fn K mg "are_entries" "are_entries" "are_entries" (topS 38) ["book", "states", "value"]
  f_is_table : Fn K mg "is_table" "is_table" "is_table" (topS 39) ["book", "value"]
  f_dice : Fn K mg "_law_dice" "_law_dice" "_law_dice" (topS 42) ["_law_script", "_law_at"]
  f_roll : Fn K mg "_law_roll" "_law_roll" "_law_roll" (topS 43) ["_law_dice_here", "_law_total"]
  f_one_of : Fn K mg "_law_one_of" "_law_one_of" "_law_one_of" (topS 44) ["_law_dice_here", "_law_choices"]
  f_mixed : Fn K mg "_law_mixed" "_law_mixed" "_law_mixed" (topS 45) ["_law_dice_here", "_law_choices"]
  f_word : Fn K mg "_law_word" "_law_word" "_law_word" (topS 46) ["_law_dice_here", "_law_others"]
  f_words : Fn K mg "_law_words" "_law_words" "_law_words" (topS 47) ["_law_dice_here", "_law_many", "_law_others"]
  f_reserved : Fn K mg "_law_reserved" "_law_reserved" "_law_reserved" (topS 48) []
  f_pairs : Fn K mg "_law_pairs" "_law_pairs" "_law_pairs" (topS 49) ["_law_dice_here", "_law_most"]
  f_outcomes : Fn K mg "_law_outcomes" "_law_outcomes" "_law_outcomes" (topS 50) ["_law_pairs_here", "_law_command"]
  f_entries : Fn K mg "_law_entries" "_law_entries" "_law_entries" (topS 51) ["_law_dice_here", "_law_pairs_here", "_law_states"]
  f_table : Fn K mg "_law_table" "_law_table" "_law_table" (topS 52) ["_law_dice_here", "_law_pairs_here", "_law_most"]
  f_origins : Fn K mg "_law_origins" "_law_origins" "_law_origins" (topS 53) ["_law_dice_here", "_law_many", "_law_done"]
  f_works : Fn K mg "_law_works" "_law_works" "_law_works" (topS 54) ["_law_dice_here", "_law_pairs_here", "_law_table_here", "_law_state_here", "_law_many"]
  f_is_origin : Fn K mg "_law_is_origin" "_law_is_origin" "_law_is_origin" (topS 55) ["_law_value", "_law_done"]
  f_is_word : Fn K mg "_law_is_word" "_law_is_word" "_law_is_word" (topS 56) ["_law_value"]
  f_lis_work : Fn K mg "_law_is_work" "_law_is_work" "_law_is_work" (topS 57) ["_law_pairs_here", "_law_value"]
  f_behind : Fn K mg "_law_behind" "_law_behind" "_law_behind" (topS 58) ["_law_pairs_here", "_law_table_here", "_law_root", "_law_work"]
  f_spoilt : Fn K mg "_law_spoilt_work" "_law_spoilt_work" "_law_spoilt_work" (topS 59) ["_law_dice_here", "_law_pairs_here", "_law_work"]
  f_state : Fn K mg "_law_state" "_law_state" "_law_state" (topS 60) ["_law_server", "_law_work"]
  f_next : Fn K mg "_law_next" "_law_next" "_law_next" (topS 61) ["_law_server", "_law_work", "_law_command"]
  f_asked : Fn K mg "_law_asked" "_law_asked" "_law_asked" (topS 62) ["_law_server", "_law_pairs_here", "_law_table_here", "_law_root", "_law_work"]
  f_right : Fn K mg "_law_right" "_law_right" "_law_right" (topS 63) ["_law_dice_here"]
  -- Book
  gB : mg "Book" = some (.ref CB)
  clB : Cls K CB
  inB : InsK K CB
  nB : NoAttr K CB "own_pairs"
  mkB : ∃ (f : Addr) (fd : FuncData), Mk K CB f ∧ Fun K "__init__" "Book.__init__" (cBook 0) f fd
  ofB : ∃ (p g : Addr) (fd : FuncData) (mc : Value), ClX.CRead K CB mc ∧ ClX.CMet K CB mc "of" p g ∧ Fun K "of" "Book.of" (cBook 1) g fd ∧ Binds K fd ["cls", "commands"] []
  prB : ∃ (p g : Addr) (fd : FuncData), PropOf K CB "commands" p g ∧ Fun K "commands" "Book.commands" (cBook 2) g fd ∧ Binds K fd ["self"] []
  ocB : Mt K CB "outcomes" "Book.outcomes" (cBook 5) ["self", "command"]
  -- Server
  gS : mg "Server" = some (.ref CS)
  clS : Cls K CS
  nSb : NoAttr K CS "own_book"
  nSt : NoAttr K CS "own_table"
  nSs : NoAttr K CS "own_start"
  mkS : ∃ (f : Addr) (fd : FuncData), Mk K CS f ∧ Fun K "__init__" "Server.__init__" (cServer 0) f fd ∧ KBn K fd ["self", "book", "table", "start"] 3 ["start"] (fun us ws => us ++ ws) (fun vs zs => vs ++ zs)
  caS : ∃ (f : Addr) (fd : FuncData), StX.CallO K CS f ∧ Fun K "__call__" "Server.__call__" (cServer 6) f fd ∧ Binds K fd ["self", "work"] []
  ocS : Mt K CS "outcome" "Server.outcome" (cServer 7) ["self", "work", "command"]
  -- InvalidOperation
  gI : mg "InvalidOperation" = some (.ref CI)
  xI : PySem.W.excIn K CI [.type "ValueError", .type "Exception", .type "BaseException", .type "object"] "ValueError.__new__" = true
  kI : PySem.W.keepIn K (.ref CI) = true
  bI : PySem.W.subIn K (.ref CI) (.type "BaseException") = some true
  tI : PySem.W.typeIn K (.ref CI) = some (.type "type")
  eI : PySem.W.exmOne K (.ref CI) (.ref CI) = some true
/-! ### isinstance -/
theorem tyx_tup {K : PySem.W.Frag} {H : Hp} {a : Addr} {xs : List V} (h : SqT K H a xs) : TyX K H (.ref a) (.type "tuple") := by
  rcases h with (h | ⟨o, h⟩) | ⟨o, its, n, h, hc, _⟩
  · exact .base (.tup h)
  · exact .fTuple h
  · exact .kTuple h hc
theorem tyx_dic {K : PySem.W.Frag} {H : Hp} {a : Addr} {kvs : List (Key × V)} (h : Rd H a (.dK kvs)) : TyX K H (.ref a) (.type "dict") := by
  rcases h with h | ⟨o, h⟩
  · exact .base (.dK h)
  · exact .fDict h
theorem isi_q {K : PySem.W.Frag} {H : Hp} {x : V} {T U : String} {b : Bool} {Q : VK} (h : TyX K H x (.type T)) (k : kitB T U = some b) (q : Q (.bl b) H) : rIsi K [x, .ty U] H Q :=
  ⟨x, .ty U, .type T, .type U, b, rfl, .ty U, h, kit_ty k, q⟩
theorem kb_ss : kitB "str" "str" = some true := by decide +kernel
theorem kb_ns : kitB "NoneType" "str" = some false := by decide +kernel
theorem kb_is : kitB "int" "str" = some false := by decide +kernel
theorem kb_ts : kitB "tuple" "str" = some false := by decide +kernel
theorem kb_ii : kitB "int" "int" = some true := by decide +kernel
theorem kb_ib : kitB "int" "bool" = some false := by decide +kernel
theorem kb_si : kitB "str" "int" = some false := by decide +kernel
theorem kb_sb : kitB "str" "bool" = some false := by decide +kernel
theorem kb_ni : kitB "NoneType" "int" = some false := by decide +kernel
theorem kb_nb : kitB "NoneType" "bool" = some false := by decide +kernel
theorem kb_tt : kitB "tuple" "tuple" = some true := by decide +kernel
theorem kb_st : kitB "str" "tuple" = some false := by decide +kernel
theorem kb_dd : kitB "dict" "dict" = some true := by decide +kernel
section
variable {X : Cx}
/-- a built-in class as a value -/
theorem pty {x : Str} {n : String} {pos : Pos} (hm : X.mg x = none) (hv : bootBuiltins x = some (.type n)) (hg : Gl X x := by rfl) (hn : x ≠ "__name__" := by decide) (hd : (x == ("__debug__" : Str)) = false := by decide) : PE X (.Name x pos) (tC (.ty n)) :=
  pe_bltn hg hm hv rfl hn hd
/-- a module's int, text, object -/
theorem pgI {x : Str} {n : Int} {t : Tok} {pos : Pos} (hm : X.mg x = some (.int n t)) (hg : Gl X x := by rfl) (hd : (x == ("__debug__" : Str)) = false := by decide) : PE X (.Name x pos) (tC (.int n)) := pe_glob hg hm ⟨t, rfl⟩ hd
theorem pgS {x : Str} {s : Str} {t : Tok} {pos : Pos} (hm : X.mg x = some (.str s t)) (hg : Gl X x := by rfl) (hd : (x == ("__debug__" : Str)) = false := by decide) : PE X (.Name x pos) (tC (.str s)) := pe_glob hg hm ⟨t, rfl⟩ hd
theorem pgR {x : Str} {a : Addr} {pos : Pos} (hm : X.mg x = some (.ref a)) (hg : Gl X x := by rfl) (hd : (x == ("__debug__" : Str)) = false := by decide) : PE X (.Name x pos) (tC (.ref a)) := pe_glob hg hm rfl hd
end
end Sk
namespace Sk
open PySem L2 KwX Evl
theorem iteD {p A B : Prop} [Decidable p] (h1 : p → A) (h2 : ¬ p → B) : if decide p = true then A else B := by
  by_cases h : p
  · rw [if_pos (decide_eq_true h)]; exact h1 h
  · rw [if_neg (by rw [decide_eq_false h]; decide)]; exact h2 h
theorem iteND {p A B : Prop} [Decidable p] (h1 : ¬ p → A) (h2 : p → B) : if (!decide p) = true then A else B := by
  by_cases h : p
  · rw [if_neg (by rw [decide_eq_true h]; decide)]; exact h2 h
  · rw [if_pos (by rw [decide_eq_false h]; decide)]; exact h1 h
theorem iteB {b : Bool} {A B : Prop} (h1 : b = true → A) (h2 : b = false → B) : if b = true then A else B := by
  cases b with
  | true => rw [if_pos rfl]; exact h1 rfl
  | false => rw [if_neg (by decide)]; exact h2 rfl
theorem iteNB {b : Bool} {A B : Prop} (h1 : b = false → A) (h2 : b = true → B) : if (!b) = true then A else B := by
  cases b with
  | true => rw [if_neg (by decide)]; exact h2 rfl
  | false => rw [if_pos (by decide)]; exact h1 rfl
theorem iteDT {p A B : Prop} [Decidable p] (hp : p) (h : A) : if decide p = true then A else B := by
  rw [if_pos (decide_eq_true hp)]; exact h
theorem iteDF {p A B : Prop} [Decidable p] (hp : ¬ p) (h : B) : if decide p = true then A else B := by
  rw [if_neg (by rw [decide_eq_false hp]; decide)]; exact h
theorem iteNT {p A B : Prop} [Decidable p] (hp : p) (h : B) : if (!decide p) = true then A else B := by
  rw [if_neg (by rw [decide_eq_true hp]; decide)]; exact h
theorem iteNF {p A B : Prop} [Decidable p] (hp : ¬ p) (h : A) : if (!decide p) = true then A else B := by
  rw [if_pos (by rw [decide_eq_false hp]; decide)]; exact h
theorem iteBT {b : Bool} {A B : Prop} (hb : b = true) (h : A) : if b = true then A else B := by rw [if_pos hb]; exact h
theorem iteBF {b : Bool} {A B : Prop} (hb : b = false) (h : B) : if b = true then A else B := by rw [if_neg (by rw [hb]; decide)]; exact h
theorem iteNBT {b : Bool} {A B : Prop} (hb : b = true) (h : B) : if (!b) = true then A else B := by rw [if_neg (by rw [hb]; decide)]; exact h
theorem iteNBF {b : Bool} {A B : Prop} (hb : b = false) (h : A) : if (!b) = true then A else B := by rw [if_pos (by rw [hb]; decide)]; exact h
theorem sz1000 {n : Nat} (h : n ≤ 1000) : n ≤ sizeLine := Nat.le_trans h (by decide)
theorem szlt {n : Nat} (h : n ≤ 1000) : n < sizeLine := Nat.lt_of_le_of_lt h (by decide)
theorem ex_same {H H' : Hp} (e : Ex H H') : Same H H' := e
/-! ### pure comprehensions -/
section
variable {J : It} {n : Nat} {G : Hp → Prop} {Y : Nat → Hp → V → Hp → Prop} {te : TE} {tt : TT} {vs : List Nat} {σ : L2.St} {H1 : Hp} {D : Addr} {Qd : Hp → Prop} {j : Nat}
theorem lc_mapN (w : Walk J n G Y) (hD : H1 D = none) (hn : n ≤ 1000) (hw : ∀ x, wipe ((wipe σ vs).set j (some x)) vs = wipe σ vs) (hG : ∀ H, Ex H1 H → G H) (f : Nat → V)
    (hs : ∀ i x H H', i < n → Ex H1 H → Y i H x H' → Ex H H' ∧ Ev te ((wipe σ vs).set j (some x)) H' (f i)) (hd : ∀ H', Ex H1 H' → H' D = some (.lst ((List.range n).map f)) → Qd H') :
    ∃ W : Nat → Nat → Hp → Prop, (∃ m, W 0 m (upd H1 D (.lst []))) ∧ ∀ i m H, W i m H →
      (J.stop i H ∧ Qd H) ∨ (J.go i H ∧ ∃ Nx : Hp → Prop, (∀ H', Nx H' → ∃ m', m' < m ∧ W (i + 1) m' H') ∧ ∀ x H', J.yld i H x H' → gName j x (wipe σ vs) H' fun σ2 H2 => wipe σ2 vs = wipe σ vs ∧ tYes σ2 H2 fun b H3 =>
        if b = true then te σ2 H3 fun y H4 => ∃ acc, H4 D = some (.lst acc) ∧ acc.length < sizeLine ∧ Nx (upd H4 D (.lst (acc ++ [y]))) else Nx H3) := by
  refine lc_it w (fun i H => Ex H1 H ∧ H D = some (.lst ((List.range i).map f))) ⟨Ex.new hD, upd_same⟩ (fun i H _ p => hG H p.1) (fun i x H H' hi p y => ?_) (fun H p => hd H p.1 p.2)
  obtain ⟨e, eD⟩ := p
  obtain ⟨e1, ev⟩ := hs i x H H' hi e y
  refine ⟨hw x, ?_⟩
  unfold tYes
  dsimp only
  rw [if_pos rfl]
  refine ev H' (Ex.refl _) _ fun H4 e4 => ?_
  refine ⟨_, e4 D _ (e1 D _ eD), szlt (by rw [List.length_map, List.length_range]; omega), Ex.mut ((e.trans e1).trans e4) hD, ?_⟩
  rw [upd_same, List.range_succ, List.map_append]
  rfl
theorem lc_filtN (w : Walk J n G Y) (hD : H1 D = none) (hn : n ≤ 1000) (hw : ∀ x, wipe ((wipe σ vs).set j (some x)) vs = wipe σ vs) (hG : ∀ H, Ex H1 H → G H) (p : Nat → Bool) (f : Nat → V)
    (hs : ∀ i x H H', i < n → Ex H1 H → Y i H x H' → Ex H H' ∧ EvT tt ((wipe σ vs).set j (some x)) H' (p i) ∧ (p i = true → Ev te ((wipe σ vs).set j (some x)) H' (f i)))
    (hd : ∀ H', Ex H1 H' → H' D = some (.lst (((List.range n).filter p).map f)) → Qd H') :
    ∃ W : Nat → Nat → Hp → Prop, (∃ m, W 0 m (upd H1 D (.lst []))) ∧ ∀ i m H, W i m H →
      (J.stop i H ∧ Qd H) ∨ (J.go i H ∧ ∃ Nx : Hp → Prop, (∀ H', Nx H' → ∃ m', m' < m ∧ W (i + 1) m' H') ∧ ∀ x H', J.yld i H x H' → gName j x (wipe σ vs) H' fun σ2 H2 => wipe σ2 vs = wipe σ vs ∧ tt σ2 H2 fun b H3 =>
        if b = true then te σ2 H3 fun y H4 => ∃ acc, H4 D = some (.lst acc) ∧ acc.length < sizeLine ∧ Nx (upd H4 D (.lst (acc ++ [y]))) else Nx H3) := by
  refine lc_it w (fun i H => Ex H1 H ∧ H D = some (.lst (((List.range i).filter p).map f))) ⟨Ex.new hD, upd_same⟩ (fun i H _ p => hG H p.1) (fun i x H H' hi q y => ?_) (fun H p => hd H p.1 p.2)
  obtain ⟨e, eD⟩ := q
  obtain ⟨e1, et, ev⟩ := hs i x H H' hi e y
  have eD2 := e1 D _ eD
  refine ⟨hw x, ?_⟩
  refine et H' (Ex.refl _) _ fun H3 e3 => ?_
  refine iteB (fun hb => ?_) (fun hb => ?_)
  · refine ev hb H3 e3 _ fun H4 e4 => ?_
    refine ⟨_, e4 D _ (e3 D _ eD2), szlt ?_, Ex.mut (((e.trans e1).trans e3).trans e4) hD, ?_⟩
    · rw [List.length_map]
      have := List.length_filter_le p (List.range i)
      rw [List.length_range] at this
      omega
    · rw [upd_same, List.range_succ, List.filter_append, List.map_append, List.filter_cons, if_pos hb]
      rfl
  · refine ⟨(e.trans e1).trans e3, ?_⟩
    rw [List.range_succ, List.filter_append, List.filter_cons, if_neg (by rw [hb]; decide), List.filter_nil, List.append_nil]
    exact e3 D _ eD2
end
end Sk
namespace Sk
open PySem L2 KwX Evl
/-! ### names -/
/-- what the program passes about: texts, ints, None -/
def okV : V → Prop
  | .str s => s.length ≤ 1000
  | .int _ => True
  | .non => True
  | _ => False
def isNm (s : Str) : Bool := (decide (1 ≤ s.length) && decide (s.length ≤ 8)) && s.cps.toList.all fun c => decide (c ∈ letters.cps.toList)
def nmV : V → Bool
  | .str s => isNm s
  | _ => false
theorem range_getD {α : Type} (l : List α) (d : α) : (List.range l.length).map (fun i => l.getD i d) = l := by
  refine List.ext_getElem (by rw [List.length_map, List.length_range]) fun i h1 h2 => ?_
  rw [List.getElem_map, List.getElem_range]
  simp [List.getD, h2]
theorem all_range {α : Type} (l : List α) (d : α) (q : α → Bool) {n : Nat} (hn : n = l.length) : ((List.range n).map fun i => q (l.getD i d)).all id = l.all q := by
  subst hn
  have e : (List.range l.length).map (fun i => q (l.getD i d)) = l.map q := by
    conv => rhs; rw [← range_getD l d]
    rw [List.map_map]
    rfl
  rw [e, List.all_map]
  rfl
def sp_is_name : Sp := fun vs H Q _ => ∃ x, vs = [x] ∧ okV x ∧ ∀ H', Evl.Ex H H' → Q (.bl (nmV x)) H'
abbrev N_is_name : List Str := ["value", "sign"]
theorem sc_is_name : FnScope N_is_name ["value"] (defScope (topS 5)) := ⟨rfl, rfl, rfl, by decide +kernel, rfl, by decide +kernel, by decide +kernel⟩
theorem ok_is_name {P : Program} {w : World} {K : PySem.W.Frag} {mg : Str → Option Value} {base : Heap} {CB CS CI : Addr} (T : Txt K mg CB CS CI) : Cl P w K mg base CX0 1 "is_name" ["value"] sp_is_name := T.f_is_name.cl fun f fd F => by
  refine F.ok sc_is_name (fun vs H Q E h => ?_) (fun cdv A outer s H vs Q E hr h => ?_)
  · obtain ⟨x, rfl, _⟩ := h
    rfl
  · obtain ⟨x, rfl, hx, k⟩ := h
    have hu := hu_of hr
    obtain ⟨t_LETTERS, h_LETTERS⟩ := T.cLetters
    obtain ⟨t_MAX_LETTERS, h_MAX_LETTERS⟩ := T.cMaxL
    refine ⟨_, (pss_cons (ps_if (PW.pt (pw_or (pt_not (pt_val (pe_callB call_isi (by rfl) T.zisi bt_isi (pa_cons (pv 0) (pa_cons (pty T.zstr bt_str) pa_nil))))) (pw_or1 (pt_not (pt_chain op_le op_le pe_int (pe_callB call_len_str (by rfl) T.zlen bt_len (pa_cons (pv 0) pa_nil)) (pgI h_MAX_LETTERS)))))) (pss_one (ps_ret pe_bl)) pss_nil)
      (pss_one (ps_ret (pe_callB (cr_all rfl) (by rfl) T.zall bt_all (pa_cons (pe_lc (own := [("sign", 1)]) (g := gName 1) (tt := tYes) rfl sc_is_name.nd (pi_str (pv 0)) (blkOk_by (N := N_is_name) (sc := defScope (topS 5)) (by decide +kernel)) (fun _ _ _ _ _ => (pg_name (i := 1) sc_is_name.nd rfl (Or.inl rfl))) (fun _ _ _ _ _ => pts_nil) (fun _ _ _ _ _ => (pe_cmpR op_in_sign (pv 1) (pgS h_LETTERS) (by rfl)))) pa_nil))))), ?_⟩
    cases x with
    | str z =>
      have hz : z.length ≤ 1000 := hx
      have hsz := sz1000 hz
      refine ⟨_, rfl, _, _, _, _, _, rfl, .ty _, .base (.str z), kit_ty kb_ss, _, rfl, iteF ?_⟩
      refine ⟨_, rfl, z, rfl, hsz, _, _, rfl, rfl, _, rfl, ?_⟩
      have fin : isNm z = false → Q (V.bl false) H := fun e => by
        have q := k H (Ex.refl H)
        have e' : nmV (V.str z) = false := e
        rw [e'] at q
        exact q
      refine iteD (fun h1 => ?_) (fun h1 => ?_)
      · refine ⟨_, _, rfl, rfl, _, rfl, ?_⟩
        refine iteNB (fun h2 => ?_) (fun h2 => ?_)
        · have h2 := of_decide_eq_false h2
          refine fin ?_
          unfold isNm
          rw [decide_eq_false (p := z.length ≤ 8) (by omega), Bool.and_false]
          rfl
        · have h2 := of_decide_eq_true h2
          refine ⟨_, rfl, z, rfl, fun D hD => ?_⟩
          refine lc_mapN (w := walk_str) hD hz (fun _ => rfl) (fun _ _ => trivial) (fun i => .bl (decide (z.cps.toList.getD i 0 ∈ letters.cps.toList))) (fun i x H1 H2 hi e y => ?_) (fun H1 e1 hl => ?_)
          · obtain ⟨rfl, c, hc, rfl⟩ := y
            refine ⟨Ex.refl _, fun H3 e3 Q3 q3 => ?_⟩
            refine ⟨_, rfl, c, letters, rfl, rfl, ?_⟩
            have ec : z.cps.toList.getD i 0 = c := by
              rw [List.getD_eq_getElem?_getD, Array.getElem?_toList, hc]
              rfl
            rw [← ec]
            exact q3 H3 (Ex.refl _)
          · refine ⟨D, (List.range z.cps.size).map fun i => decide (z.cps.toList.getD i 0 ∈ letters.cps.toList), rfl, SqL.of ?_, ?_⟩
            · rw [hl, List.map_map]
              rfl
            · have q := k H1 e1
              have e' : nmV (V.str z) = ((List.range z.cps.size).map fun i => decide (z.cps.toList.getD i 0 ∈ letters.cps.toList)).all id := by
                show isNm z = _
                rw [all_range z.cps.toList 0 (fun c => decide (c ∈ letters.cps.toList)) (by simp)]
                unfold isNm
                rw [decide_eq_true (p := 1 ≤ z.length) (by omega), decide_eq_true (p := z.length ≤ 8) (by omega)]
                rfl
              rw [e'] at q
              exact q
      · refine ⟨_, rfl, iteT ?_⟩
        refine fin ?_
        unfold isNm
        rw [decide_eq_false (p := 1 ≤ z.length) (by omega)]
        rfl
    | int n => exact ⟨_, rfl, _, _, _, _, _, rfl, .ty _, .base (.int n), kit_ty kb_is, _, rfl, iteT (iteT (k H (Ex.refl H)))⟩
    | non => exact ⟨_, rfl, _, _, _, _, _, rfl, .ty _, .base .non, kit_ty kb_ns, _, rfl, iteT (iteT (k H (Ex.refl H)))⟩
    | bl b => exact hx.elim
    | byt b => exact hx.elim
    | flt b => exact hx.elim
    | ref b => exact hx.elim
    | ty b => exact hx.elim
end Sk
namespace Sk
open PySem L2 KwX Evl
/-! ### what stays when lists change -/
def NL : HO → Prop
  | .lst _ => False
  | _ => True
structure Kr (H H' : Hp) : Prop where
  rd : ∀ a o, NL o → Rd H a o → Rd H' a o
  ins : ∀ a C dx fs, H a = some (.ins C dx fs) → H' a = some (.ins C dx fs)
theorem Kr.refl (H : Hp) : Kr H H := ⟨fun _ _ _ h => h, fun _ _ _ _ h => h⟩
theorem Kr.trans {H H1 H2 : Hp} (a : Kr H H1) (b : Kr H1 H2) : Kr H H2 := ⟨fun x o n h => b.rd x o n (a.rd x o n h), fun x C dx fs h => b.ins x C dx fs (a.ins x C dx fs h)⟩
theorem Kr.of_ex {H H' : Hp} (e : Ex H H') : Kr H H' := ⟨fun _ _ _ h => ex_rd e h, fun x C dx fs h => e x _ h⟩
theorem Kr.new {H : Hp} {p : Addr} {o : HO} (h : H p = none) : Kr H (upd H p o) := .of_ex (Ex.new h)
/-- a change outside what H0 tracks -/
theorem Kr.mut {H0 H : Hp} {f : Addr} {o : HO} (k : Kr H0 H) (h : H0 f = none) : Kr H0 (upd H f o) := by
  refine ⟨fun a u n r => ?_, fun a C dx fs e => ?_⟩
  · have ha : a ≠ f := by
      rintro rfl
      rcases r with r | ⟨_, r⟩ <;> (rw [h] at r; cases r)
    have q := k.rd a u n r
    rcases q with q | ⟨w, q⟩
    · exact .inl (by rw [upd_ne ha]; exact q)
    · exact .inr ⟨w, by rw [upd_ne ha]; exact q⟩
  · rw [upd_ne (ne_of_none e h)]
    exact k.ins a C dx fs e
/-- a list changed -/
theorem Kr.lst {H : Hp} {l : Addr} {xs ys : List V} (h : H l = some (.lst xs)) : Kr H (upd H l (.lst ys)) := by
  refine ⟨fun a u n r => ?_, fun a C dx fs e => ?_⟩
  · have ha : a ≠ l := by
      rintro rfl
      rcases r with r | ⟨_, r⟩
      · rw [h] at r; cases r; exact n
      · rw [h] at r; cases r
    rcases r with r | ⟨w, r⟩
    · exact .inl (by rw [upd_ne ha]; exact r)
    · exact .inr ⟨w, by rw [upd_ne ha]; exact r⟩
  · rw [upd_ne (ne_of e h (by intro z; cases z))]
    exact e
/-- a dict locked -/
theorem Kr.lock {H : Hp} {d : Addr} {kvs : List (Key × V)} {od : Obj} (h : H d = some (.dK kvs)) : Kr H (upd H d (.frz od (.dK kvs))) := by
  refine ⟨fun a u n r => ?_, fun a C dx fs e => ?_⟩
  · by_cases ha : a = d
    · subst ha
      rcases r with r | ⟨_, r⟩
      · rw [h] at r; cases r; exact .inr ⟨od, upd_same⟩
      · rw [h] at r; cases r
    · rcases r with r | ⟨w, r⟩
      · exact .inl (by rw [upd_ne ha]; exact r)
      · exact .inr ⟨w, by rw [upd_ne ha]; exact r⟩
  · rw [upd_ne (ne_of e h (by intro z; cases z))]
    exact e
theorem Kr.tup {K : PySem.W.Frag} {H H' : Hp} {a : Addr} {xs : List V} (k : Kr H H') (h : SqT K H a xs) : SqT K H' a xs := by
  rcases h with h | h
  · exact .inl (k.rd a _ trivial h)
  · exact .inr h
theorem Kr.dic {H H' : Hp} {a : Addr} {kvs : List (Key × V)} (k : Kr H H') (h : Rd H a (.dK kvs)) : Rd H' a (.dK kvs) := k.rd a _ trivial h
/-- all but what stands at d -/
def Kx (d : Addr) (H H' : Hp) : Prop := ∀ a o, a ≠ d → H a = some o → H' a = some o
theorem Kx.refl (d : Addr) (H : Hp) : Kx d H H := fun _ _ _ h => h
theorem Kx.trans {d : Addr} {H H1 H2 : Hp} (a : Kx d H H1) (b : Kx d H1 H2) : Kx d H H2 := fun x o n h => b x o n (a x o n h)
theorem Kx.of_ex {d : Addr} {H H' : Hp} (e : Ex H H') : Kx d H H' := fun a o _ h => e a o h
theorem Kx.new {d : Addr} {H : Hp} {p : Addr} {o : HO} (h : H p = none) : Kx d H (upd H p o) := .of_ex (Ex.new h)
theorem Kx.at_ {d : Addr} {H : Hp} {o : HO} : Kx d H (upd H d o) := fun a u n h => by rw [upd_ne n]; exact h
theorem Kx.mut {d f : Addr} {H0 H : Hp} {o : HO} (k : Kx d H0 H) (h : H0 f = none) : Kx d H0 (upd H f o) := fun a u n e => by
  rw [upd_ne (ne_of_none e h)]
  exact k a u n e
theorem Kx.kr {d : Addr} {H H' : Hp} {xs : List V} (k : Kx d H H') (h : H d = some (.lst xs)) : Kr H H' := by
  have hd : ∀ a o, NL o → Rd H a o → a ≠ d := by
    rintro a o n r rfl
    rcases r with r | ⟨_, r⟩
    · rw [h] at r; cases r; exact n
    · rw [h] at r; cases r
  refine ⟨fun a u n r => ?_, fun a C dx fs e => k a _ (ne_of e h (by intro z; cases z)) e⟩
  have ha := hd a u n r
  rcases r with r | ⟨w, r⟩
  · exact .inl (k a _ ha r)
  · exact .inr ⟨w, k a _ ha r⟩
theorem Kx.free {d f : Addr} {H H' : Hp} {o : HO} (k : Kx d H H') (hd : H d = some o) (hd' : H' d ≠ none) (h : H' f = none) : H f = none := by
  cases q : H f with
  | none => rfl
  | some u =>
    by_cases e : f = d
    · subst e; exact absurd h hd'
    · rw [k f u e q] at h; cases h
/-- behind a lock -/
theorem ex_unlock {H H' : Hp} {d : Addr} {u : HO} {od : Obj} (h : H d = some u) (e : Ex (upd H d (.frz od u)) H') : Ex H (upd H' d u) := fun a o ha => by
  by_cases q : a = d
  · subst q
    rw [h] at ha
    rw [upd_same]
    exact ha
  · rw [upd_ne q]
    exact e a o (by rw [upd_ne q]; exact ha)
/-! ### texts in order -/
def strLt (a b : Str) : Prop := a.cps.toList < b.cps.toList
instance (a b : Str) : Decidable (strLt a b) := inferInstanceAs (Decidable (a.cps.toList < b.cps.toList))
def isAns (s : Str) : Prop := isNm s = true ∧ s ∉ reserved
theorem isNm_len {s : Str} (h : isNm s = true) : 1 ≤ s.length ∧ s.length ≤ 8 := by
  unfold isNm at h
  simp only [Bool.and_eq_true, decide_eq_true_eq] at h
  exact h.1
theorem isNm_1000 {s : Str} (h : isNm s = true) : s.length ≤ 1000 := by have := isNm_len h; omega
/-! ### books -/
abbrev Bk := List (Str × (Nat × List Str))
structure okPair (t : Nat) (ys : List Str) : Prop where
  t2 : t ≤ 2
  y1 : 1 ≤ ys.length
  y3 : ys.length ≤ 3
  ans : ∀ y ∈ ys, isAns y
  asc : ys.Pairwise strLt
structure BkOk (B : Bk) : Prop where
  n1 : 1 ≤ B.length
  n4 : B.length ≤ 4
  nd : (B.map (·.1)).Nodup
  ans : ∀ b ∈ B, isAns b.1
  pr : ∀ b ∈ B, okPair b.2.1 b.2.2
/-- (takes, answers) -/
def PairV (K : PySem.W.Frag) (H : Hp) (v : V) (t : Nat) (ys : List Str) : Prop := ∃ p a, v = .ref p ∧ SqT K H p [.int (t : Int), .ref a] ∧ SqT K H a (ys.map V.str)
theorem PairV.kr {K : PySem.W.Frag} {H H' : Hp} {v : V} {t : Nat} {ys : List Str} (k : Kr H H') (h : PairV K H v t ys) : PairV K H' v t ys :=
  let ⟨p, a, e, h1, h2⟩ := h; ⟨p, a, e, k.tup h1, k.tup h2⟩
/-- a dict of pairs -/
structure PKv (K : PySem.W.Frag) (H : Hp) (kvs : List (Key × V)) (B : Bk) : Prop where
  ks : ∃ ns : List Str, kvs.map (·.1) = ns.map Sum.inr ∧ ns.Perm (B.map (·.1))
  get : ∀ b ∈ B, ∃ v, valV kvs (Sum.inr b.1 : Key) = some v ∧ PairV K H v b.2.1 b.2.2
theorem PKv.kr {K : PySem.W.Frag} {H H' : Hp} {kvs : List (Key × V)} {B : Bk} (k : Kr H H') (h : PKv K H kvs B) : PKv K H' kvs B :=
  ⟨h.ks, fun b hb => let ⟨v, e, p⟩ := h.get b hb; ⟨v, e, p.kr k⟩⟩
theorem PKv.no {K : PySem.W.Frag} {H : Hp} {kvs : List (Key × V)} {B : Bk} (h : PKv K H kvs B) {s : Str} (hs : s ∉ B.map (·.1)) : valV kvs (Sum.inr s : Key) = none := by
  obtain ⟨ns, e, p⟩ := h.ks
  cases q : valV kvs (Sum.inr s : Key) with
  | none => rfl
  | some v =>
    have m := valV_in q
    rw [e] at m
    obtain ⟨x, hx, ex⟩ := List.mem_map.mp m
    cases ex
    exact absurd (p.mem_iff.mp hx) hs
theorem PKv.len {K : PySem.W.Frag} {H : Hp} {kvs : List (Key × V)} {B : Bk} (h : PKv K H kvs B) : kvs.length = B.length := by
  obtain ⟨ns, e, p⟩ := h.ks
  have h1 : kvs.length = ns.length := by
    have := congrArg List.length e
    simpa using this
  have h2 := p.length_eq
  rw [List.length_map] at h2
  omega
/-- a dict of pairs at d -/
def PDic (K : PySem.W.Frag) (H : Hp) (d : Addr) (B : Bk) : Prop := ∃ kvs, Rd H d (.dK kvs) ∧ PKv K H kvs B
theorem PDic.kr {K : PySem.W.Frag} {H H' : Hp} {d : Addr} {B : Bk} (k : Kr H H') (h : PDic K H d B) : PDic K H' d B := let ⟨kvs, h1, h2⟩ := h; ⟨kvs, k.dic h1, h2.kr k⟩
/-- a book at b -/
def BookAt (K : PySem.W.Frag) (CB : Addr) (H : Hp) (b : Addr) (B : Bk) : Prop := ∃ dx pd, H b = some (.ins CB dx [(("own_pairs" : Str), .ref pd)]) ∧ PDic K H pd B
theorem BookAt.kr {K : PySem.W.Frag} {CB : Addr} {H H' : Hp} {b : Addr} {B : Bk} (k : Kr H H') (h : BookAt K CB H b B) : BookAt K CB H' b B := let ⟨dx, pd, h1, h2⟩ := h; ⟨dx, pd, k.ins _ _ _ _ h1, h2.kr k⟩
end Sk
namespace Sk
open PySem L2 KwX Evl RZ
section
variable {J : It} {n : Nat} {G : Hp → Prop} {Y : Nat → Hp → V → Hp → Prop} {te : TE} {tt : TT} {vs : List Nat} {σ : L2.St} {H1 : Hp} {D : Addr} {Qd : Hp → Prop} {g : TG}
theorem lc_mapG (w : Walk J n G Y) (hD : H1 D = none) (hn : n ≤ 1000) (hG : ∀ H, Ex H1 H → G H) (f : Nat → V)
    (hs : ∀ i x H H', i < n → Ex H1 H → Y i H x H' → Ex H H' ∧ ∃ σ2, wipe σ2 vs = wipe σ vs ∧ Ev te σ2 H' (f i) ∧ ∀ Qk : L2.St → Hp → Prop, Qk σ2 H' → g x (wipe σ vs) H' Qk) (hd : ∀ H', Ex H1 H' → H' D = some (.lst ((List.range n).map f)) → Qd H') :
    ∃ W : Nat → Nat → Hp → Prop, (∃ m, W 0 m (upd H1 D (.lst []))) ∧ ∀ i m H, W i m H →
      (J.stop i H ∧ Qd H) ∨ (J.go i H ∧ ∃ Nx : Hp → Prop, (∀ H', Nx H' → ∃ m', m' < m ∧ W (i + 1) m' H') ∧ ∀ x H', J.yld i H x H' → g x (wipe σ vs) H' fun σ2 H2 => wipe σ2 vs = wipe σ vs ∧ tYes σ2 H2 fun b H3 =>
        if b = true then te σ2 H3 fun y H4 => ∃ acc, H4 D = some (.lst acc) ∧ acc.length < sizeLine ∧ Nx (upd H4 D (.lst (acc ++ [y]))) else Nx H3) := by
  refine lc_it w (fun i H => Ex H1 H ∧ H D = some (.lst ((List.range i).map f))) ⟨Ex.new hD, upd_same⟩ (fun i H _ p => hG H p.1) (fun i x H H' hi p y => ?_) (fun H p => hd H p.1 p.2)
  obtain ⟨e, eD⟩ := p
  obtain ⟨e1, σ2, hw, ev, hg⟩ := hs i x H H' hi e y
  refine hg _ ⟨hw, ?_⟩
  unfold tYes
  dsimp only
  rw [if_pos rfl]
  refine ev H' (Ex.refl _) _ fun H4 e4 => ?_
  refine ⟨_, e4 D _ (e1 D _ eD), szlt (by rw [List.length_map, List.length_range]; omega), Ex.mut ((e.trans e1).trans e4) hD, ?_⟩
  rw [upd_same, List.range_succ, List.map_append]
  rfl
end
theorem walk_zipT {K : PySem.W.Frag} {a b : Addr} {xs ys : List V} {n : Nat} (hn : n = min xs.length ys.length) : Walk (ItzT K a b) n (fun H => SqT K H a xs ∧ SqT K H b ys) (YPair (fun i => xs[i]?) (fun i => ys[i]?)) := by
  subst hn
  refine ⟨fun i _ hi q => ?_, fun _ q => ⟨xs, ys, q.1, q.2, by omega⟩, fun i H v H' _ q y => ?_⟩
  · have h1 : i < xs.length := by omega
    have h2 : i < ys.length := by omega
    exact ⟨xs, ys, xs[i], ys[i], q.1, q.2, by simp [h1], by simp [h2]⟩
  · obtain ⟨T, x, z, h1, h2, h3, h4, h5⟩ := y
    exact ⟨T, x, z, h1, h2, h3, h4 xs q.1, h5 ys q.2⟩
theorem inV_str (s : Str) (ws : List Str) : inV (.str s) (ws.map V.str) = decide (s ∈ ws) := by
  induction ws with
  | nil => simp [inV]
  | cons x r ih =>
    have e : inV (.str s) ((x :: r).map V.str) = ((x == s) || inV (.str s) (r.map V.str)) := rfl
    rw [e, ih]
    by_cases h : x = s
    · subst h; simp
    · have h1 : (x == s) = false := beq_eq_false_iff_ne.mpr h
      have h2 : ¬ s = x := fun q => h q.symm
      rw [h1]
      simp [h2]
theorem flat_strs (ws : List Str) : (ws.map V.str).all flatV = true := by
  induction ws with
  | nil => rfl
  | cons x r ih => exact ih
theorem flat_ints (ws : List Int) : (ws.map V.int).all flatV = true := by
  induction ws with
  | nil => rfl
  | cons x r ih => exact ih
theorem inV_int (k : Int) (ws : List Int) : inV (.int k) (ws.map V.int) = decide (k ∈ ws) := by
  induction ws with
  | nil => simp [inV]
  | cons x r ih =>
    have e : inV (.int k) ((x :: r).map V.int) = ((x == k) || inV (.int k) (r.map V.int)) := rfl
    rw [e, ih]
    by_cases h : x = k
    · subst h; simp
    · have h1 : (x == k) = false := beq_eq_false_iff_ne.mpr h
      have h2 : ¬ k = x := fun q => h q.symm
      rw [h1]
      simp [h2]
theorem all_true_range {n : Nat} {p : Nat → Bool} (h : ∀ i, i < n → p i = true) : ((List.range n).map p).all id = true := by
  rw [List.all_map, List.all_eq_true]
  intro i hi
  exact h i (List.mem_range.mp hi)
end Sk
namespace Sk
open PySem L2 KwX Evl RZ
def intV : V → Bool
  | .int _ => true
  | _ => false
def sp_is_answer : Sp := fun vs H Q _ => ∃ s, vs = [.str s] ∧ isAns s ∧ ∀ H', Ex H H' → Q (.bl true) H'
def sp_is_integer : Sp := fun vs H Q _ => ∃ x, vs = [x] ∧ okV x ∧ ∀ H', Ex H H' → Q (.bl (intV x)) H'
def sp_are_ascending (K : PySem.W.Frag) : Sp := fun vs H Q _ => ∃ (a : Addr) (ys : List Str), vs = [.ref a] ∧ SqT K H a (ys.map V.str) ∧ 1 ≤ ys.length ∧ ys.length ≤ 1000 ∧ ys.Pairwise strLt ∧ ∀ H', Ex H H' → Q (.bl true) H'
def sp_is_pair (K : PySem.W.Frag) : Sp := fun vs H Q _ => ∃ (v : V) (t : Nat) (ys : List Str), vs = [v] ∧ PairV K H v t ys ∧ okPair t ys ∧ ∀ H', Ex H H' → Q (.bl true) H'
theorem cutV_tail {xs : List V} (h : 1 ≤ xs.length) : cutV xs (some 1) none = xs.drop 1 := by
  unfold cutV
  have e : HT.sIx xs.length 0 (some 1) = 1 := by
    have := HT.sIx_nat xs.length 0 1
    rw [Nat.min_eq_left h] at this
    exact this
  rw [e, HT.sIx_none]
  exact List.take_of_length_le (by rw [List.length_drop]; omega)
abbrev N_is_answer : List Str := ["value"]
theorem sc_is_answer : FnScope N_is_answer ["value"] (defScope (topS 6)) := ⟨rfl, rfl, rfl, by decide +kernel, rfl, by decide +kernel, by decide +kernel⟩
theorem ok_is_answer {P : Program} {w : World} {K : PySem.W.Frag} {mg : Str → Option Value} {base : Heap} {CB CS CI : Addr} (T : Txt K mg CB CS CI) : Cl P w K mg base CX0 2 "is_answer" ["value"] sp_is_answer := T.f_is_answer.cl fun f fd F => by
  refine F.ok sc_is_answer (fun vs H Q E h => ?_) (fun cdv A outer s H vs Q E hr h => ?_)
  · obtain ⟨s0, rfl, _⟩ := h
    rfl
  · obtain ⟨s0, rfl, hs, k⟩ := h
    have hu := hu_of hr
    obtain ⟨a_RESERVED, h_RESERVED, s_RESERVED⟩ := T.cReserved
    refine ⟨_, (pss_one (ps_ret (pe_and (pc0 (ok_is_name T) hr (pa_cons (pv 0) pa_nil)) (pe_one (pe_cmpR op_notIn_seq (pv 0) (pgR h_RESERVED) (by rfl)))))), ?_⟩
    refine ⟨_, rfl, .str s0, rfl, isNm_1000 hs.1, fun H1 e1 => ⟨_, rfl, ?_⟩⟩
    refine iteB (fun _ => ?_) (fun e => ?_)
    · refine ⟨_, rfl, a_RESERVED, reserved.map V.str, rfl, .inr (s_RESERVED _), rfl, flat_strs _, ?_⟩
      show Q (V.bl (!inV (V.str s0) (reserved.map V.str))) H1
      rw [inV_str, decide_eq_false hs.2]
      exact k H1 e1
    · exact absurd (hs.1.symm.trans e) (by decide)
abbrev N_is_integer : List Str := ["value"]
theorem sc_is_integer : FnScope N_is_integer ["value"] (defScope (topS 7)) := ⟨rfl, rfl, rfl, by decide +kernel, rfl, by decide +kernel, by decide +kernel⟩
theorem ok_is_integer {P : Program} {w : World} {K : PySem.W.Frag} {mg : Str → Option Value} {base : Heap} {CB CS CI : Addr} (T : Txt K mg CB CS CI) : Cl P w K mg base CX0 2 "is_integer" ["value"] sp_is_integer := T.f_is_integer.cl fun f fd F => by
  refine F.ok sc_is_integer (fun vs H Q E h => ?_) (fun cdv A outer s H vs Q E hr h => ?_)
  · obtain ⟨x, rfl, _⟩ := h
    rfl
  · obtain ⟨x, rfl, hx, k⟩ := h
    have hu := hu_of hr
    refine ⟨_, (pss_one (ps_ret (pe_and (pe_callB call_isi (by rfl) T.zisi bt_isi (pa_cons (pv 0) (pa_cons (pty T.zint bt_int) pa_nil))) (pe_one (pe_not (pe_callB call_isi (by rfl) T.zisi bt_isi (pa_cons (pv 0) (pa_cons (pty T.zbool bt_bool) pa_nil)))))))), ?_⟩
    cases x with
    | str z => exact ⟨_, rfl, _, _, _, _, _, rfl, .ty _, .base (.str z), kit_ty kb_si, _, rfl, k H (Ex.refl H)⟩
    | int n => exact ⟨_, rfl, _, _, _, _, _, rfl, .ty _, .base (.int n), kit_ty kb_ii, _, rfl, ⟨_, rfl, _, _, _, _, _, rfl, .ty _, .base (.int n), kit_ty kb_ib, _, rfl, k H (Ex.refl H)⟩⟩
    | non => exact ⟨_, rfl, _, _, _, _, _, rfl, .ty _, .base .non, kit_ty kb_ni, _, rfl, k H (Ex.refl H)⟩
    | bl b => exact hx.elim
    | byt b => exact hx.elim
    | flt b => exact hx.elim
    | ref b => exact hx.elim
    | ty b => exact hx.elim
abbrev N_are_ascending : List Str := ["items", "one", "other"]
theorem sc_are_ascending : FnScope N_are_ascending ["items"] (defScope (topS 8)) := ⟨rfl, rfl, rfl, by decide +kernel, rfl, by decide +kernel, by decide +kernel⟩
theorem ok_are_ascending {P : Program} {w : World} {K : PySem.W.Frag} {mg : Str → Option Value} {base : Heap} {CB CS CI : Addr} (T : Txt K mg CB CS CI) : Cl P w K mg base CX0 2 "are_ascending" ["items"] (sp_are_ascending K) := T.f_are_ascending.cl fun f fd F => by
  refine F.ok sc_are_ascending (fun vs H Q E h => ?_) (fun cdv A outer s H vs Q E hr h => ?_)
  · obtain ⟨a, ys, rfl, _⟩ := h
    rfl
  · obtain ⟨a, ys, rfl, hS, h1, h2, hp, k⟩ := h
    have hu := hu_of hr
    refine ⟨_, (pss_one (ps_ret (pe_callB (cr_all rfl) (by rfl) T.zall bt_all (pa_cons (pe_lc (own := [("one", 1), ("other", 2)]) (g := gTup K 2 (gCons (gName 1) (gCons (gName 2) gNil))) (tt := tYes) rfl sc_are_ascending.nd (pi_zipA (by rfl) T.zzip (pa_cons (pv 0) (pa_cons (pe_slice sl_tupA (pv 0) (po_some pe_int) po_none) pa_nil))) (blkOk_by (N := N_are_ascending) (sc := defScope (topS 8)) (by decide +kernel)) (fun _ _ _ _ _ => (pg_tup (by rfl) (pgs_cons (pg_name (i := 1) sc_are_ascending.nd rfl (Or.inl rfl)) (pgs_cons (pg_name (i := 2) sc_are_ascending.nd rfl (Or.inl rfl)) pgs_nil)))) (fun _ _ _ _ _ => pts_nil) (fun _ _ _ _ _ => (pe_cmpR op_lt_str (pv 1) (pv 2) (nomark _)))) pa_nil)))), ?_⟩
    have hl : (ys.map V.str).length = ys.length := List.length_map _
    refine ⟨_, rfl, _, rfl, _, rfl, a, ys.map V.str, rfl, hS, fun hw => ?_, fun _ p hpn => ?_⟩
    · exfalso
      have := hw.1
      rw [hl] at this
      have e := HT.sIx_nat ys.length 0 1
      have e' : HT.sIx ys.length 0 (some 1) = min 1 ys.length := e
      rw [e'] at this
      omega
    · rw [cutV_tail (by rw [hl]; exact h1)]
      have ex1 : Ex H (upd H p (.tup ((ys.map V.str).drop 1))) := Ex.new hpn
      refine ⟨a, p, ys.map V.str, (ys.map V.str).drop 1, rfl, .inr ⟨ex_t ex1 hS, SqT.of upd_same, fun D hD => ?_⟩⟩
      refine lc_mapG (walk_zipT (xs := ys.map V.str) (ys := (ys.map V.str).drop 1) (n := ys.length - 1) ?_) hD (by omega) (fun H2 e2 => ⟨ex_t (ex1.trans e2) hS, ex_t e2 (SqT.of upd_same)⟩) (fun _ => .bl true) (fun i x H2 H3 hi e2 y => ?_) (fun H2 e2 hl2 => ?_)
      · rw [List.length_drop, hl]
        omega
      · obtain ⟨T0, x1, x2, rfl, hT, rfl, hx1, hx2⟩ := y
        have i1 : i < ys.length := by omega
        have i2 : i + 1 < ys.length := by omega
        have e1 : x1 = .str ys[i] := by
          have hx1 : (ys.map V.str)[i]? = some x1 := hx1
          rw [List.getElem?_map, List.getElem?_eq_getElem i1] at hx1
          exact (Option.some.inj hx1).symm
        have e2' : x2 = .str ys[i + 1] := by
          have hx2 : ((ys.map V.str).drop 1)[i]? = some x2 := hx2
          rw [List.getElem?_drop, List.getElem?_map, Nat.add_comm, List.getElem?_eq_getElem i2] at hx2
          exact (Option.some.inj hx2).symm
        subst e1 e2'
        refine ⟨Ex.new hT, _, ?_, fun H4 e4 Q4 q4 => ⟨_, rfl, _, rfl, _, _, rfl, rfl, ?_⟩, fun Qk hk => ⟨T0, _, rfl, SqT.of upd_same, rfl, _, _, rfl, _, _, rfl, rfl, hk⟩⟩
        · rfl
        · have lt : ys[i].cps.toList < ys[i + 1].cps.toList := List.pairwise_iff_getElem.mp hp i (i + 1) i1 i2 (Nat.lt_succ_self i)
          rw [decide_eq_true lt]
          exact q4 H4 (Ex.refl _)
      · refine ⟨D, (List.range (ys.length - 1)).map fun _ => true, rfl, SqL.of ?_, ?_⟩
        · rw [hl2, List.map_map]
          rfl
        · rw [all_true_range (fun _ _ => rfl)]
          exact k _ (ex1.trans e2)
abbrev N_is_pair : List Str := ["value", "takes", "answers", "answer"]
theorem sc_is_pair : FnScope N_is_pair ["value"] (defScope (topS 20)) := ⟨rfl, rfl, rfl, by decide +kernel, rfl, by decide +kernel, by decide +kernel⟩
theorem ok_is_pair {P : Program} {w : World} {K : PySem.W.Frag} {mg : Str → Option Value} {base : Heap} {CB CS CI : Addr} (T : Txt K mg CB CS CI) : Cl P w K mg base CX0 3 "is_pair" ["value"] (sp_is_pair K) := T.f_is_pair.cl fun f fd F => by
  refine F.ok sc_is_pair (fun vs H Q E h => ?_) (fun cdv A outer s H vs Q E hr h => ?_)
  · obtain ⟨v, t, ys, rfl, _⟩ := h
    rfl
  · obtain ⟨v, t, ys, rfl, ⟨p, a, rfl, hp, ha⟩, ok, k⟩ := h
    have hu := hu_of hr
    obtain ⟨t_MAX_ANSWERS, h_MAX_ANSWERS⟩ := T.cMaxA
    obtain ⟨t_MAX_TAKES, h_MAX_TAKES⟩ := T.cMaxT
    refine ⟨_, (pss_cons (ps_if (PW.pt (pw_or (pt_not (pt_val (pe_callB call_isi (by rfl) T.zisi bt_isi (pa_cons (pv 0) (pa_cons (pty T.ztuple bt_tuple) pa_nil))))) (pw_or1 (pt_cmpR op_ne (pe_callB call_len_seq (by rfl) T.zlen bt_len (pa_cons (pv 0) pa_nil)) pe_int (nomark _))))) (pss_one (ps_ret pe_bl)) pss_nil)
      (pss_cons (ps_asg (pv 0) (pg_tup (by rfl) (pgs_cons (pg_name (i := 1) sc_is_pair.nd rfl (Or.inl rfl)) (pgs_cons (pg_name (i := 2) sc_is_pair.nd rfl (Or.inl rfl)) pgs_nil))))
      (pss_cons (ps_if (PW.pt (pw_or (pt_not (pt_val (pc0 (ok_is_integer T) hr (pa_cons (pv 1) pa_nil)))) (pw_or (pt_not (pt_chain op_le op_le pe_int (pv 1) (pgI h_MAX_TAKES))) (pw_or1 (pt_not (pt_val (pe_callB call_isi (by rfl) T.zisi bt_isi (pa_cons (pv 2) (pa_cons (pty T.ztuple bt_tuple) pa_nil))))))))) (pss_one (ps_ret pe_bl)) pss_nil)
      (pss_cons (ps_if (PW.pt (pw_or (pt_not (pt_chain op_le op_le pe_int (pe_callB call_len_seq (by rfl) T.zlen bt_len (pa_cons (pv 2) pa_nil)) (pgI h_MAX_ANSWERS))) (pw_or1 (pt_not (pt_val (pe_callB (cr_all rfl) (by rfl) T.zall bt_all (pa_cons (pe_lc (own := [("answer", 3)]) (g := gName 3) (tt := tYes) rfl sc_is_pair.nd (pi_tup (pv 2)) (blkOk_by (N := N_is_pair) (sc := defScope (topS 20)) (by decide +kernel)) (fun _ _ _ _ _ => (pg_name (i := 3) sc_is_pair.nd rfl (Or.inl rfl))) (fun _ _ _ _ _ => pts_nil) (fun _ _ _ _ _ => (pc0 (ok_is_answer T) hr (pa_cons (pv 3) pa_nil)))) pa_nil))))))) (pss_one (ps_ret pe_bl)) pss_nil)
      (pss_one (ps_ret (pc0 (ok_are_ascending T) hr (pa_cons (pv 2) pa_nil)))))))), ?_⟩
    have hl : (ys.map V.str).length = ys.length := List.length_map _
    have b1 := ok.t2
    have b2 := ok.y1
    have b3 := ok.y3
    refine ⟨_, rfl, _, _, _, _, _, rfl, .ty _, tyx_tup hp, kit_ty kb_tt, _, rfl, ?_⟩
    refine ⟨_, rfl, p, _, rfl, .inr hp, rfl, _, rfl, ?_⟩
    refine ⟨_, rfl, p, _, rfl, hp, rfl, _, _, rfl, _, _, rfl, rfl, ?_⟩
    refine ⟨_, rfl, _, rfl, trivial, fun H1 e1 => ⟨_, rfl, ?_⟩⟩
    refine ⟨_, rfl, _, _, rfl, rfl, _, rfl, ?_⟩
    refine iteDT (by omega) ?_
    refine ⟨_, _, rfl, rfl, _, rfl, ?_⟩
    refine iteNT (by omega) ?_
    have ha1 := ex_t e1 ha
    refine ⟨_, rfl, _, _, _, _, _, rfl, .ty _, tyx_tup ha1, kit_ty kb_tt, _, rfl, ?_⟩
    refine ⟨_, rfl, a, _, rfl, .inr ha1, _, _, rfl, rfl, _, rfl, ?_⟩
    refine iteDT (by rw [hl]; omega) ?_
    refine ⟨_, _, rfl, rfl, _, rfl, ?_⟩
    refine iteNT (by rw [hl]; omega) ?_
    refine ⟨_, rfl, a, rfl, ⟨_, ha1⟩, fun D hD => ?_⟩
    refine lc_mapN (w := walk_tup (xs := ys.map V.str)) hD (by rw [hl]; omega) (fun _ => rfl) (fun H2 e2 => ex_t e2 ha1) (fun i => .bl true) (fun i x H2 H3 hi e2 y => ?_) (fun H2 e2 hl2 => ?_)
    · obtain ⟨rfl, hx⟩ := y
      obtain ⟨s1, hs1, rfl⟩ := List.mem_map.mp (List.mem_of_getElem? hx)
      refine ⟨Ex.refl _, fun H4 e4 Q4 q4 => ⟨_, rfl, s1, rfl, ok.ans s1 hs1, fun H5 e5 => q4 H5 e5⟩⟩
    · refine ⟨D, (List.range (ys.map V.str).length).map fun _ => true, rfl, SqL.of ?_, _, rfl, ?_⟩
      · rw [hl2, List.map_map]
        rfl
      · refine iteNBT (all_true_range (fun _ _ => rfl)) ?_
        refine ⟨_, rfl, a, ys, rfl, ex_t e2 ha1, b2, by omega, ok.asc, fun H3 e3 => k H3 ((e1.trans e2).trans e3)⟩
end Sk
namespace Sk
open PySem L2 KwX Evl
theorem getD_lt {α : Type} {l : List α} {d : α} {i : Nat} (h : i < l.length) : l.getD i d = l[i] := by simp [List.getD, h]
theorem valV_mem : ∀ {kvs : List (Key × V)} {k : Key} {v : V}, (kvs.map (·.1)).Nodup → (k, v) ∈ kvs → valV kvs k = some v
  | [], _, _, _, h => by cases h
  | p :: r, k, v, hn, h => by
    obtain ⟨h1, h2⟩ := List.nodup_cons.mp (show (p.1 :: r.map (·.1)).Nodup from hn)
    rcases List.mem_cons.mp h with e | e
    · have : p.1 = k := by rw [← e]
      rw [valV_pos this, ← e]
    · have hk : p.1 ≠ k := fun q => h1 (by rw [q]; exact List.mem_map.mpr ⟨(k, v), e, rfl⟩)
      unfold valV
      rw [List.find?_cons, decide_eq_false hk]
      exact valV_mem h2 e
theorem call_lenR {X : Cx} : CallR X (.builtin "len") (fun xs H Q => ∃ a kvs, xs = [V.ref a] ∧ Rd H a (.dK kvs) ∧ Q (.int kvs.length) H) := by
  intro pins s σ H xs us Q I r h
  obtain ⟨a, kvs, rfl, ha, q⟩ := h
  obtain ⟨u, rfl, ru⟩ := vals1 r
  cases ru
  exact d_len I ha fun t s' I' => ⟨.int kvs.length, H, I', ⟨t, rfl⟩, q⟩
theorem valV_none {kvs : List (Key × V)} {k : Key} (h : k ∉ kvs.map (·.1)) : valV kvs k = none := by
  cases q : valV kvs k with
  | none => rfl
  | some v => exact absurd (valV_in q) h
section
variable {J : It} {n : Nat} {G : Hp → Prop} {Y : Nat → Hp → V → Hp → Prop} {tk tv : TE} {tt : TT} {vs : List Nat} {σ : L2.St} {H1 : Hp} {D : Addr} {Qd : Hp → Prop} {j : Nat} {g : TG}
theorem dc_it (w : Walk J n G Y) (Pv : Nat → Hp → Prop) (h0 : Pv 0 (upd H1 D (.dK []))) (hG : ∀ i H, i ≤ n → Pv i H → G H)
    (hs : ∀ i x H H', i < n → Pv i H → Y i H x H' → g x (wipe σ vs) H' fun σ2 H2 => wipe σ2 vs = wipe σ vs ∧ tt σ2 H2 fun b H3 =>
      if b = true then tk σ2 H3 fun y H4 => tv σ2 H4 fun z H5 => ∃ kvs k, y = kV k ∧ H5 D = some (.dK kvs) ∧ kvs.length < sizeLine ∧ Pv (i + 1) (upd H5 D (.dK (putK kvs k z))) else Pv (i + 1) H3) (hd : ∀ H, Pv n H → Qd H) :
    ∃ W : Nat → Nat → Hp → Prop, (∃ m, W 0 m (upd H1 D (.dK []))) ∧ ∀ i m H, W i m H →
      (J.stop i H ∧ Qd H) ∨ (J.go i H ∧ ∃ Nx : Hp → Prop, (∀ H', Nx H' → ∃ m', m' < m ∧ W (i + 1) m' H') ∧ ∀ x H', J.yld i H x H' → g x (wipe σ vs) H' fun σ2 H2 => wipe σ2 vs = wipe σ vs ∧ tt σ2 H2 fun b H3 =>
        if b = true then tk σ2 H3 fun y H4 => tv σ2 H4 fun z H5 => ∃ kvs k, y = kV k ∧ H5 D = some (.dK kvs) ∧ kvs.length < sizeLine ∧ Nx (upd H5 D (.dK (putK kvs k z))) else Nx H3) := by
  refine ⟨fun i m H => m = n - i ∧ i ≤ n ∧ Pv i H, ⟨n, by simp, Nat.zero_le _, h0⟩, ?_⟩
  rintro i m H ⟨rfl, hi, p⟩
  have q := hG i H hi p
  by_cases hlt : i < n
  · refine .inr ⟨w.goes i H hlt q, Pv (i + 1), fun H' p' => ⟨n - (i + 1), by omega, rfl, hlt, p'⟩, fun x H' y => hs i x H H' hlt p (w.yields i H x H' hlt q y)⟩
  · have e : i = n := by omega
    subst e
    exact .inl ⟨w.stops H q, hd H p⟩
theorem dc_mapN (w : Walk J n G Y) (hD : H1 D = none) (hn : n ≤ 1000) (hw : ∀ x, wipe ((wipe σ vs).set j (some x)) vs = wipe σ vs) (hG : ∀ H, Ex H1 H → G H) (kf : Nat → Key) (f : Nat → V) (hinj : ∀ i i', i < i' → i' < n → kf i ≠ kf i')
    (hs : ∀ i x H H', i < n → Ex H1 H → Y i H x H' → Ex H H' ∧ Ev tk ((wipe σ vs).set j (some x)) H' (kV (kf i)) ∧ Ev tv ((wipe σ vs).set j (some x)) H' (f i)) (hd : ∀ H', Ex H1 H' → H' D = some (.dK ((List.range n).map fun i => (kf i, f i))) → Qd H') :
    ∃ W : Nat → Nat → Hp → Prop, (∃ m, W 0 m (upd H1 D (.dK []))) ∧ ∀ i m H, W i m H →
      (J.stop i H ∧ Qd H) ∨ (J.go i H ∧ ∃ Nx : Hp → Prop, (∀ H', Nx H' → ∃ m', m' < m ∧ W (i + 1) m' H') ∧ ∀ x H', J.yld i H x H' → gName j x (wipe σ vs) H' fun σ2 H2 => wipe σ2 vs = wipe σ vs ∧ tYes σ2 H2 fun b H3 =>
        if b = true then tk σ2 H3 fun y H4 => tv σ2 H4 fun z H5 => ∃ kvs k, y = kV k ∧ H5 D = some (.dK kvs) ∧ kvs.length < sizeLine ∧ Nx (upd H5 D (.dK (putK kvs k z))) else Nx H3) := by
  refine dc_it w (fun i H => i ≤ n ∧ Ex H1 H ∧ H D = some (.dK ((List.range i).map fun i => (kf i, f i)))) ⟨Nat.zero_le _, Ex.new hD, upd_same⟩ (fun i H _ p => hG H p.2.1) (fun i x H H' hi p y => ?_) (fun H p => hd H p.2.1 p.2.2)
  obtain ⟨_, e, eD⟩ := p
  obtain ⟨e1, ek, ev⟩ := hs i x H H' hi e y
  refine ⟨hw x, ?_⟩
  unfold tYes
  dsimp only
  rw [if_pos rfl]
  refine ek H' (Ex.refl _) _ fun H4 e4 => ev H4 e4 _ fun H5 e5 => ?_
  have eD5 := e5 D _ (e4 D _ (e1 D _ eD))
  refine ⟨_, kf i, rfl, eD5, szlt (by rw [List.length_map, List.length_range]; omega), hi, Ex.mut (((e.trans e1).trans e4).trans e5) hD, ?_⟩
  rw [upd_same, putK_new, List.range_succ, List.map_append]
  · rfl
  · refine valV_none fun hm => ?_
    rw [List.map_map] at hm
    obtain ⟨i', hi', e'⟩ := List.mem_map.mp hm
    exact hinj i' i (List.mem_range.mp hi') hi e'
end
/-- a key's entry in a dict that is read -/
theorem dget {H : Hp} {a : Addr} {kvs : List (Key × V)} (k : Key) (h : Rd H a (.dK kvs)) : DGet H a (kV k) (valV kvs k) := .inl ⟨kvs, k, h, rfl, rfl⟩
theorem dgetS {H : Hp} {a : Addr} {kvs : List (Key × V)} {s : Str} {o : Option V} (h : Rd H a (.dK kvs)) (e : valV kvs (Sum.inr s : Key) = o) : DGet H a (.str s) o := e ▸ dget (Sum.inr s) h
theorem dgetI {H : Hp} {a : Addr} {kvs : List (Key × V)} {i : Int} {o : Option V} (h : Rd H a (.dK kvs)) (e : valV kvs (Sum.inl i : Key) = o) : DGet H a (.int i) o := e ▸ dget (Sum.inl i) h
end Sk
namespace Sk
open PySem L2 KwX Evl RZ
def sp_require_book (K : PySem.W.Frag) (CB : Addr) : Sp := fun vs H Q _ => ∃ (b : Addr) (B : Bk), vs = [.ref b] ∧ BookAt K CB H b B ∧ ∀ H', Ex H H' → Q .non H'
def sp_is_command (K : PySem.W.Frag) (CB : Addr) : Sp := fun vs H Q _ => ∃ (b : Addr) (B : Bk) (c : Str), vs = [.ref b, .str c] ∧ BookAt K CB H b B ∧ ∀ H', Ex H H' → Q (.bl (decide (c ∈ B.map (·.1)))) H'
def sp_require_command (K : PySem.W.Frag) (CB : Addr) : Sp := fun vs H Q _ => ∃ (b : Addr) (B : Bk) (c : Str), vs = [.ref b, .str c] ∧ BookAt K CB H b B ∧ c ∈ B.map (·.1) ∧ ∀ H', Ex H H' → Q .non H'
def sp_outcomes_in (K : PySem.W.Frag) (CB : Addr) : Sp := fun vs H Q _ => ∃ (b : Addr) (B : Bk) (c : Str) (t : Nat) (ys : List Str), vs = [.ref b, .str c] ∧ BookAt K CB H b B ∧ BkOk B ∧ (c, t, ys) ∈ B ∧
  ∀ (H' : Hp) (p : Addr) (zs : List Str), Ex H H' → H p = none → H' p = some (.tup (zs.map V.str)) → zs.Perm ("failed" :: ys) → Q (.ref p) H'
theorem lk_own (pd : Addr) : List.lookup ("own_pairs" : Str) [(("own_pairs" : Str), V.ref pd)] = some (.ref pd) := by simp [List.lookup]
theorem PKv.isSome {K : PySem.W.Frag} {H : Hp} {kvs : List (Key × V)} {B : Bk} (h : PKv K H kvs B) (s : Str) : (valV kvs (Sum.inr s : Key)).isSome = decide (s ∈ B.map (·.1)) := by
  by_cases m : s ∈ B.map (·.1)
  · obtain ⟨b, hb, e⟩ := List.mem_map.mp m
    obtain ⟨v, e1, _⟩ := h.get b hb
    have e' : b.1 = s := e
    rw [e'] at e1
    rw [e1, decide_eq_true m]
    rfl
  · rw [h.no m, decide_eq_false m]
    rfl
abbrev N_require_book : List Str := ["book"]
theorem sc_require_book : FnScope N_require_book ["book"] (defScope (topS 25)) := ⟨rfl, rfl, rfl, by decide +kernel, rfl, by decide +kernel, by decide +kernel⟩
theorem ok_require_book {P : Program} {w : World} {K : PySem.W.Frag} {mg : Str → Option Value} {base : Heap} {CB CS CI : Addr} (T : Txt K mg CB CS CI) : Cl P w K mg base CX0 1 "require_book" ["book"] (sp_require_book K CB) := T.f_require_book.cl fun f fd F => by
  refine F.ok sc_require_book (fun vs H Q E h => ?_) (fun cdv A outer s H vs Q E hr h => ?_)
  · obtain ⟨b, B, rfl, _⟩ := h
    rfl
  · obtain ⟨b, B, rfl, ⟨dx, pd, hb, hp⟩, k⟩ := h
    have hu := hu_of hr
    refine ⟨_, (pss_one (ps_if (pt_not (pt_val (pe_callB call_isi (by rfl) T.zisi bt_isi (pa_cons (pv 0) (pa_cons (pgR T.gB) pa_nil))))) (pss_one (ps_never)) pss_nil)), ?_⟩
    exact ⟨_, rfl, _, _, _, _, _, rfl, .own CB, .base (.ins hb T.clB T.inB.ha T.inB.hn T.inB.htk T.inB.hm), T.inB.me, _, rfl, k H (Ex.refl H)⟩
abbrev N_is_command : List Str := ["book", "value"]
theorem sc_is_command : FnScope N_is_command ["book", "value"] (defScope (topS 23)) := ⟨rfl, rfl, rfl, by decide +kernel, rfl, by decide +kernel, by decide +kernel⟩
theorem ok_is_command {P : Program} {w : World} {K : PySem.W.Frag} {mg : Str → Option Value} {base : Heap} {CB CS CI : Addr} (T : Txt K mg CB CS CI) : Cl P w K mg base CX0 1 "is_command" ["book", "value"] (sp_is_command K CB) := T.f_is_command.cl fun f fd F => by
  refine F.ok sc_is_command (fun vs H Q E h => ?_) (fun cdv A outer s H vs Q E hr h => ?_)
  · obtain ⟨b, B, c, rfl, _⟩ := h
    rfl
  · obtain ⟨b, B, c, rfl, ⟨dx, pd, hb, kvs, hr1, hp⟩, k⟩ := h
    have hu := hu_of hr
    refine ⟨_, (pss_one (ps_ret (pe_and (pe_callB call_isi (by rfl) T.zisi bt_isi (pa_cons (pv 1) (pa_cons (pty T.zstr bt_str) pa_nil))) (pe_one (pe_cmp (pc_din hu (pv 1) (pe_fld (pv 0) rfl)) rfl))))), ?_⟩
    refine ⟨_, rfl, _, _, _, _, _, rfl, .ty _, .base (.str c), kit_ty kb_ss, _, rfl, ?_⟩
    refine ⟨_, rfl, _, rfl, b, CB, dx, _, _, rfl, hb, T.clB, T.nB, lk_own pd, pd, _, rfl, dgetS hr1 rfl, ?_⟩
    rw [hp.isSome]
    exact k H (Ex.refl H)
abbrev N_outcomes_in : List Str := ["book", "command"]
theorem sc_outcomes_in : FnScope N_outcomes_in ["book", "command"] (defScope (topS 24)) := ⟨rfl, rfl, rfl, by decide +kernel, rfl, by decide +kernel, by decide +kernel⟩
theorem ok_outcomes_in {P : Program} {w : World} {K : PySem.W.Frag} {mg : Str → Option Value} {base : Heap} {CB CS CI : Addr} (T : Txt K mg CB CS CI) : Cl P w K mg base CX0 1 "outcomes_in" ["book", "command"] (sp_outcomes_in K CB) := T.f_outcomes_in.cl fun f fd F => by
  refine F.ok sc_outcomes_in (fun vs H Q E h => ?_) (fun cdv A outer s H vs Q E hr h => ?_)
  · obtain ⟨b, B, c, t, ys, rfl, _⟩ := h
    rfl
  · obtain ⟨b, B, c, t, ys, rfl, ⟨dx, pd, hb, kvs, hr1, hp⟩, ok, hc, k⟩ := h
    have hu := hu_of hr
    obtain ⟨t_FAILED, h_FAILED⟩ := T.cFailed
    refine ⟨_, (pss_one (ps_ret (pe_callTy call_tuple_of (by rfl) T.ztuple bt_tuple (pa_cons (pe_callB cr_sortedS (by rfl) T.zsorted bt_sorted (pa_cons (pe_lst (pa_cons (pgS h_FAILED) (StX.pa_star (pe_ix ix_tup (pe_dget hu (pe_fld (pv 0) rfl) (pv 1) (fun _ _ => rfl)) pe_int (fun _ _ => rfl)) pa_nil))) pa_nil)) pa_nil)))), ?_⟩
    obtain ⟨v, hv, p, a, rfl, h1, h2⟩ := hp.get _ hc
    have b3 := (ok.pr _ hc).y3
    have b3' : ys.length ≤ 3 := b3
    refine ⟨_, rfl, b, CB, dx, _, _, rfl, hb, T.clB, T.nB, lk_own pd, _, rfl, pd, _, rfl, dgetS hr1 hv, p, _, (1 : Int), _, rfl, rfl, h1, rfl, a, _, rfl, .inl h2, ?_⟩
    have el : V.str "failed" :: (ys.map V.str ++ []) = (("failed" : Str) :: ys).map V.str := by rw [List.append_nil]; rfl
    have ell : (V.str "failed" :: (ys.map V.str ++ [])).length ≤ sizeLine := by
      rw [el, List.length_map, List.length_cons]
      exact sz1000 (by omega)
    refine ⟨ell, fun l hl => ?_⟩
    rw [el]
    refine ⟨l, _, rfl, SqL.of upd_same, by rw [List.length_cons]; omega, fun zs q perm _ hq => ?_⟩
    refine ⟨q, _, rfl, .inl ⟨SqL.of upd_same, fun r hr => ?_⟩⟩
    have x1 := Ex.new (o := .lst ((("failed" : Str) :: ys).map V.str)) hl
    have x2 := Ex.new (o := .lst (zs.map V.str)) hq
    exact k _ r zs ((x1.trans x2).trans (Ex.new hr)) (fresh_back x1 (fresh_back x2 hr)) upd_same perm
abbrev N_require_command : List Str := ["book", "command"]
theorem sc_require_command : FnScope N_require_command ["book", "command"] (defScope (topS 26)) := ⟨rfl, rfl, rfl, by decide +kernel, rfl, by decide +kernel, by decide +kernel⟩
theorem ok_require_command {P : Program} {w : World} {K : PySem.W.Frag} {mg : Str → Option Value} {base : Heap} {CB CS CI : Addr} (T : Txt K mg CB CS CI) : Cl P w K mg base CX0 2 "require_command" ["book", "command"] (sp_require_command K CB) := T.f_require_command.cl fun f fd F => by
  refine F.ok sc_require_command (fun vs H Q E h => ?_) (fun cdv A outer s H vs Q E hr h => ?_)
  · obtain ⟨b, B, c, rfl, _⟩ := h
    rfl
  · obtain ⟨b, B, c, rfl, hB, hc, k⟩ := h
    have hu := hu_of hr
    refine ⟨_, (pss_one (ps_if (pt_not (pt_val (pc0 (ok_is_command T) hr (pa_cons (pv 0) (pa_cons (pv 1) pa_nil))))) (pss_one (ps_never)) pss_nil)), ?_⟩
    refine ⟨_, rfl, _, rfl, b, B, c, rfl, hB, fun H1 e1 => ⟨_, rfl, ?_⟩⟩
    exact iteNT hc (k H1 e1)
end Sk
namespace Sk
open PySem L2 KwX Evl RZ
def sp_pairs_of (K : PySem.W.Frag) : Sp := fun vs H Q _ => ∃ (d : Addr) (kvs : List (Key × V)) (B : Bk), vs = [.ref d] ∧ H d = some (.dK kvs) ∧ PKv K H kvs B ∧ BkOk B ∧
  ∀ (H' : Hp) (q : Addr) (kvs' : List (Key × V)), Ex H H' → H q = none → H' q = some (.dK kvs') → PKv K H' kvs' B → Q (.ref q) H'
theorem reserved_this : ("this_book" : Str) ∉ reserved := by decide +kernel
theorem isNm_this : isNm ("this_book" : Str) = false := by decide +kernel
theorem PKv.key {K : PySem.W.Frag} {H : Hp} {kvs : List (Key × V)} {B : Bk} (h : PKv K H kvs B) {i : Nat} {k : Key} {v : V} (hi : kvs[i]? = some (k, v)) : ∃ b ∈ B, k = Sum.inr b.1 := by
  obtain ⟨ns, e, p⟩ := h.ks
  have m : k ∈ kvs.map (·.1) := List.mem_map.mpr ⟨(k, v), List.mem_of_getElem? hi, rfl⟩
  rw [e] at m
  obtain ⟨x, hx, ex⟩ := List.mem_map.mp m
  obtain ⟨b, hb, eb⟩ := List.mem_map.mp (p.mem_iff.mp hx)
  have eb' : b.1 = x := eb
  exact ⟨b, hb, by rw [← ex, eb']⟩
/-- what does not change tuples -/
def Kt (K : PySem.W.Frag) (H H' : Hp) : Prop := ∀ a xs, SqT K H a xs → SqT K H' a xs
theorem Kt.upd {K : PySem.W.Frag} {H : Hp} {a : Addr} {o u : HO} (h : H a = some o) (n : ∀ xs, o ≠ .tup xs) (n2 : ∀ ob xs, o ≠ .frz ob (.tup xs)) : Kt K H (upd H a u) := by
  rintro c xs ((h1 | ⟨ob, h1⟩) | h1)
  · exact .inl (.inl (by rw [upd_ne (ne_of h1 h (fun z => n xs z.symm))]; exact h1))
  · exact .inl (.inr ⟨ob, by rw [upd_ne (ne_of h1 h (fun z => n2 ob xs z.symm))]; exact h1⟩)
  · exact .inr h1
theorem PairV.kt {K : PySem.W.Frag} {H H' : Hp} {v : V} {t : Nat} {ys : List Str} (k : Kt K H H') (h : PairV K H v t ys) : PairV K H' v t ys :=
  let ⟨p, a, e, h1, h2⟩ := h; ⟨p, a, e, k _ _ h1, k _ _ h2⟩
theorem PKv.kt {K : PySem.W.Frag} {H H' : Hp} {kvs : List (Key × V)} {B : Bk} (k : Kt K H H') (h : PKv K H kvs B) : PKv K H' kvs B :=
  ⟨h.ks, fun b hb => let ⟨v, e, p⟩ := h.get b hb; ⟨v, e, p.kt k⟩⟩
abbrev N_pairs_of : List Str := ["commands", "name"]
theorem sc_pairs_of : FnScope N_pairs_of ["commands"] (defScope (topS 21)) := ⟨rfl, rfl, rfl, by decide +kernel, rfl, by decide +kernel, by decide +kernel⟩
theorem ok_pairs_of {P : Program} {w : World} {K : PySem.W.Frag} {mg : Str → Option Value} {base : Heap} {CB CS CI : Addr} (T : Txt K mg CB CS CI) : Cl P w K mg base CX0 4 "pairs_of" ["commands"] (sp_pairs_of K) := T.f_pairs_of.cl fun f fd F => by
  refine F.ok sc_pairs_of (fun vs H Q E h => ?_) (fun cdv A outer s H vs Q E hr h => ?_)
  · obtain ⟨d, kvs, B, rfl, _⟩ := h
    rfl
  · obtain ⟨d, kvs, B, rfl, hd, hp, ok, k⟩ := h
    have hu := hu_of hr
    obtain ⟨t_MAX_COMMANDS, h_MAX_COMMANDS⟩ := T.cMaxC
    refine ⟨_, (pss_cons (ps_if (PW.pt (pw_or (pt_not (pt_val (pe_callB call_isi (by rfl) T.zisi bt_isi (pa_cons (pv 0) (pa_cons (pty T.zdict bt_dict) pa_nil))))) (pw_or1 (pt_not (pt_chain op_le op_le pe_int (pe_callB call_lenD (by rfl) T.zlen bt_len (pa_cons (pv 0) pa_nil)) (pgI h_MAX_COMMANDS)))))) (pss_one (ps_never)) pss_nil)
      (pss_cons (ps_if (pt_not (pt_val (pe_callB (cr_all rfl) (by rfl) T.zall bt_all (pa_cons (pe_lock (pe_lc (own := [("name", 1)]) (g := gName 1) (tt := tYes) rfl sc_pairs_of.nd (pi_keys (pv 0)) (blkOk_by (N := N_pairs_of) (sc := defScope (topS 21)) (by decide +kernel)) (fun _ _ _ _ _ => (pg_name (i := 1) sc_pairs_of.nd rfl (Or.inl rfl))) (fun _ _ _ _ _ => pts_nil) (fun _ _ _ _ _ => (pe_and (pc0 (ok_is_answer T) hr (pa_cons (pv 1) pa_nil)) (pe_one (pc0 (ok_is_pair T) hr (pa_cons (pe_dget hu (pv 0) (pv 1) (fun _ _ => rfl)) pa_nil))))))) pa_nil)))) (pss_one (ps_never)) pss_nil)
      (pss_one (ps_ret (pe_dc (own := [("name", 1)]) (g := gName 1) (tt := tYes) rfl sc_pairs_of.nd (pi_list (pe_callB (call_sortedD rfl) (by rfl) T.zsorted bt_sorted (pa_cons (pv 0) pa_nil))) (blkOk_by (N := N_pairs_of) (sc := defScope (topS 21)) (by decide +kernel)) (fun _ _ _ _ _ => (pg_name (i := 1) sc_pairs_of.nd rfl (Or.inl rfl))) (fun _ _ _ _ _ => pts_nil) (fun _ _ _ _ _ => (pv 1)) (fun _ _ _ _ _ => (pe_dget hu (pv 0) (pv 1) (fun _ _ => rfl)))))))), ?_⟩
    have hl := hp.len
    have b1 := ok.n1
    have b4 := ok.n4
    refine ⟨_, rfl, _, _, _, _, _, rfl, .ty _, .base (.dK hd), kit_ty kb_dd, _, rfl, ?_⟩
    refine ⟨_, rfl, d, kvs, rfl, hd, _, _, rfl, rfl, _, rfl, ?_⟩
    refine iteDT (by omega) ?_
    refine ⟨_, _, rfl, rfl, _, rfl, ?_⟩
    refine iteNT (by omega) ?_
    -- the look at the keys, the dict locked
    refine ⟨d, _, hd, trivial, fun od => ?_⟩
    have kl : Kr H (upd H d (.frz od (.dK kvs))) := Kr.lock hd
    refine ⟨_, rfl, d, od, rfl, .inl ⟨kvs, upd_same, fun D hD => ?_⟩⟩
    refine lc_mapN (w := walk_keys) hD (by omega) (fun _ => rfl) (fun H2 e2 => e2 _ _ upd_same) (fun i => .bl true) (fun i x H2 H3 hi e2 y => ?_) (fun H2 e2 hl2 => ?_)
    · obtain ⟨rfl, k0, v0, hk0, rfl⟩ := y
      obtain ⟨b, hb, rfl⟩ := hp.key hk0
      refine ⟨Ex.refl _, fun H4 e4 Q4 q4 => ?_⟩
      refine ⟨_, rfl, b.1, rfl, ok.ans b hb, fun H5 e5 => ⟨_, rfl, ?_⟩⟩
      obtain ⟨v, hv, pv⟩ := hp.get b hb
      have hd5 : H5 d = some (.frz od (.dK kvs)) := e5 _ _ (e4 _ _ (e2 _ _ upd_same))
      refine ⟨_, rfl, _, rfl, d, v, rfl, dgetS (.inr ⟨od, hd5⟩) hv, v, b.2.1, b.2.2, rfl, ?_, ok.pr b hb, fun H6 e6 => q4 H6 (e5.trans e6)⟩
      exact pv.kr ((kl.trans (.of_ex e2)).trans (.of_ex (e4.trans e5)))
    · refine ⟨e2 _ _ upd_same, ?_⟩
      have x1 : Ex H (upd H2 d (.dK kvs)) := ex_unlock hd e2
      have hDd : D ≠ d := by
        rintro rfl
        rw [upd_same] at hD
        cases hD
      refine ⟨D, (List.range kvs.length).map fun _ => true, rfl, SqL.of ?_, _, rfl, ?_⟩
      · rw [upd_ne hDd, hl2, List.map_map]
        rfl
      · refine iteNBT (all_true_range (fun _ _ => rfl)) ?_
        obtain ⟨ns, en, pn⟩ := hp.ks
        have nsl : ns.length = kvs.length := by
          have := congrArg List.length en
          simpa using this.symm
        have hd1 := x1 _ _ hd
        refine ⟨_, rfl, d, kvs, ns, rfl, .inl hd1, en, by omega, fun ys q perm _ hq => ?_⟩
        have x2 := Ex.new (o := .lst (ys.map V.str)) hq
        have ysl : ys.length = ns.length := perm.length_eq
        have pB : ys.Perm (B.map (·.1)) := perm.trans pn
        have ynd : ys.Nodup := pB.symm.nodup ok.nd
        refine ⟨q, rfl, ⟨_, SqL.of upd_same⟩, fun D2 hD2 => ?_⟩
        refine dc_mapN (w := walk_list (xs := ys.map V.str)) hD2 (by rw [List.length_map]; omega) (fun _ => rfl) (fun H3 e3 => ex_l e3 (SqL.of upd_same)) (fun i => Sum.inr (ys.getD i Str.empty)) (fun i => (valV kvs (Sum.inr (ys.getD i Str.empty) : Key)).getD .non) (fun i i' h1 h2 e => ?_) (fun i x H3 H4 hi e3 y => ?_) (fun H3 e3 hl3 => ?_)
        · rw [List.length_map] at h2
          have e := Sum.inr.inj e
          rw [getD_lt (by omega), getD_lt h2] at e
          exact absurd ((List.getElem_inj ynd).mp e) (by omega)
        · obtain ⟨rfl, hx⟩ := y
          rw [List.length_map] at hi
          have ex0 : x = .str (ys.getD i Str.empty) := by
            rw [List.getElem?_map, List.getElem?_eq_getElem hi] at hx
            rw [getD_lt hi]
            exact (Option.some.inj hx).symm
          subst ex0
          have my : ys.getD i Str.empty ∈ B.map (·.1) := by
            rw [getD_lt hi]
            exact pB.mem_iff.mp (List.getElem_mem hi)
          obtain ⟨b, hb, eb⟩ := List.mem_map.mp my
          have eb' : b.1 = ys.getD i Str.empty := eb
          obtain ⟨v, hv, pv⟩ := hp.get b hb
          rw [eb'] at hv
          refine ⟨Ex.refl _, fun H5 e5 Q5 q5 => ⟨_, rfl, q5 H5 (Ex.refl _)⟩, fun H5 e5 Q5 q5 => ?_⟩
          have hd5 : H5 d = some (.dK kvs) := e5 _ _ (e3 _ _ (x2 _ _ hd1))
          refine ⟨_, rfl, _, rfl, d, v, rfl, dgetS (.inl hd5) hv, ?_⟩
          have : (valV kvs (Sum.inr (ys.getD i Str.empty) : Key)).getD .non = v := by rw [hv]; rfl
          rw [← this]
          exact q5 H5 (Ex.refl _)
        · have xx : Ex H H3 := (x1.trans x2).trans e3
          refine k H3 D2 _ xx (fresh_back x1 (fresh_back x2 hD2)) hl3 ⟨⟨ys, ?_, pB⟩, fun b hb => ?_⟩
          · rw [List.length_map, List.map_map]
            show (List.range ys.length).map (fun i => (Sum.inr (ys.getD i Str.empty) : Key)) = _
            conv => rhs; rw [← range_getD ys Str.empty]
            rw [List.map_map]
            rfl
          · obtain ⟨v, hv, pv⟩ := hp.get b hb
            refine ⟨v, ?_, pv.kr (.of_ex xx)⟩
            have mb : b.1 ∈ ys := pB.mem_iff.mpr (List.mem_map.mpr ⟨b, hb, rfl⟩)
            obtain ⟨i, hi, ei⟩ := List.mem_iff_getElem.mp mb
            have kn : ((List.range (ys.map V.str).length).map fun i => ((Sum.inr (ys.getD i Str.empty) : Key), (valV kvs (Sum.inr (ys.getD i Str.empty) : Key)).getD .non)).map (·.1) = ys.map Sum.inr := by
              rw [List.length_map, List.map_map]
              show (List.range ys.length).map (fun i => (Sum.inr (ys.getD i Str.empty) : Key)) = _
              conv => rhs; rw [← range_getD ys Str.empty]
              rw [List.map_map]
              rfl
            refine valV_mem ?_ ?_
            · rw [kn]
              exact List.pairwise_map.mpr (ynd.imp fun h e => h (Sum.inr.inj e))
            · refine List.mem_map.mpr ⟨i, List.mem_range.mpr (by rw [List.length_map]; exact hi), ?_⟩
              rw [getD_lt hi, ei, hv]
              rfl
end Sk
namespace Sk
open PySem L2 KwX Evl RZ
def sp_book_init (K : PySem.W.Frag) (CB : Addr) : Sp := fun vs H Q _ => ∃ (x dx d : Addr) (kvs : List (Key × V)) (B : Bk), vs = [.ref x, .ref d] ∧ H x = some (.ins CB dx []) ∧ H d = some (.dK kvs) ∧ PKv K H kvs B ∧ BkOk B ∧
  ∀ (H' : Hp) (pd : Addr) (kvs' : List (Key × V)), (∀ a o, a ≠ x → H a = some o → H' a = some o) → H' x = some (.ins CB dx [(("own_pairs" : Str), .ref pd)]) → H' pd = some (.dK kvs') → PKv K H' kvs' B → Q .non H'
def sp_book_of (K : PySem.W.Frag) (CB : Addr) : Sp := fun vs H Q _ => ∃ (d : Addr) (kvs : List (Key × V)) (B : Bk), vs = [.ref CB, .ref d] ∧ H d = some (.dK kvs) ∧ PKv K H kvs B ∧ BkOk B ∧
  ∀ (H' : Hp) (b : Addr), Ex H H' → H b = none → BookAt K CB H' b B → Q (.ref b) H'
def sp_book_commands (K : PySem.W.Frag) (CB : Addr) : Sp := fun vs H Q _ => ∃ (b : Addr) (B : Bk), vs = [.ref b] ∧ BookAt K CB H b B ∧
  ∀ (H' : Hp) (p : Addr) (ns : List Str), Ex H H' → H p = none → H' p = some (.tup (ns.map V.str)) → ns.Perm (B.map (·.1)) → Q (.ref p) H'
abbrev N_book_init : List Str := ["this_book", "commands"]
theorem sc_book_init : FnScope N_book_init ["this_book", "commands"] (defScope (cBook 0)) := ⟨rfl, rfl, rfl, by decide +kernel, rfl, by decide +kernel, by decide +kernel⟩
theorem ok_book_init {P : Program} {w : World} {K : PySem.W.Frag} {mg : Str → Option Value} {base : Heap} {CB CS CI : Addr} (T : Txt K mg CB CS CI) {f : Addr} {fd : FuncData} (F : Fun K "__init__" "Book.__init__" (cBook 0) f fd) : FnKw P w K mg base 5 f (sp_book_init K CB) := by
  refine fn_kw F sc_book_init rfl (fun cdv A outer s H vs Q E hr h => ?_)
  · obtain ⟨x, dx, d, kvs, B, rfl, hx, hd, hp, ok, k⟩ := h
    have hu := hu_of hr
    refine ⟨_, (pss_one (ps_fld (pv 0) (pc0 (ok_pairs_of T) hr (pa_cons (pv 1) pa_nil)) rfl)), ?_⟩
    refine ⟨_, rfl, d, kvs, B, rfl, hd, hp, ok, fun H1 q kvs' e1 hq hq1 hp1 => ?_⟩
    have hx1 := e1 _ _ hx
    refine ⟨_, rfl, x, CB, dx, _, rfl, hx1, T.clB, T.nB, (by show 0 < 1000; decide), ?_⟩
    have hqx : q ≠ x := fun z => by rw [z, hx1] at hq1; cases hq1
    exact k _ q kvs' (fun a u n e => by rw [upd_ne n]; exact e1 _ _ e) upd_same (by rw [upd_ne hqx]; exact hq1) (hp1.kt (Kt.upd hx1 (fun _ z => by cases z) (fun _ _ z => by cases z)))
abbrev N_book_of : List Str := ["cls", "commands", "pairs"]
theorem sc_book_of : FnScope N_book_of ["cls", "commands"] (defScope (cBook 1)) := ⟨rfl, rfl, rfl, by decide +kernel, rfl, by decide +kernel, by decide +kernel⟩
theorem ok_book_of {P : Program} {w : World} {K : PySem.W.Frag} {mg : Str → Option Value} {base : Heap} {CB CS CI : Addr} (T : Txt K mg CB CS CI) {f : Addr} {fd : FuncData} (F : Fun K "of" "Book.of" (cBook 1) f fd) : FnOk P w K mg base CX0 7 f fd ["cls", "commands"] (sp_book_of K CB) := by
  obtain ⟨fI, fdI, MI, FI⟩ := T.mkB
  refine F.ok sc_book_of (fun vs H Q E h => ?_) (fun cdv A outer s H vs Q E hr h => ?_)
  · obtain ⟨d, kvs, B, rfl, _⟩ := h
    rfl
  · obtain ⟨d, kvs, B, rfl, hd, hp, ok, k⟩ := h
    have hu := hu_of hr
    refine ⟨_, (pss_cons (ps_set (i := 2) sc_book_of.nd rfl (Or.inl rfl) (pc0 (ok_pairs_of T) hr (pa_cons (pv 1) pa_nil)))
      (pss_one (ps_ret (pe_makeKw (E := E0) MI (ok_book_init T FI) hr (pv 0) (pv 2))))), ?_⟩
    refine ⟨_, rfl, d, kvs, B, rfl, hd, hp, ok, fun H1 q kvs1 e1 hq hq1 hp1 => ?_⟩
    refine ⟨_, rfl, rfl, fun d0 hd0 => ?_⟩
    have x2 := Ex.new (o := .dK []) hd0
    have hqd : q ≠ d0 := fun z => by rw [z, hd0] at hq1; cases hq1
    refine ⟨_, rfl, q, kvs1, rfl, hqd, upd_same, .inl (x2 _ _ hq1), fun p hpm => ?_, by rw [hp1.len]; have := ok.n4; omega, fun y dx d2 hy hdx hne hd2 => ?_⟩
    · obtain ⟨i, hi, ei⟩ := List.mem_iff_getElem.mp hpm
      obtain ⟨b, hb, eb⟩ := hp1.key (i := i) (k := p.1) (v := p.2) (by rw [List.getElem?_eq_getElem hi, ei])
      refine ⟨b.1, eb, beq_eq_false_iff_ne.mpr fun z => ?_⟩
      have := (ok.ans b hb).1
      rw [z, isNm_this] at this
      cases this
    · have hd0n : H1 d0 = none := hd0
      -- the heap behind the merge
      have x3 : Ex H1 (upd (upd H1 d0 (.dK [])) d0 (.dK kvs1)) := Ex.mut x2 hd0
      have x4 := x3.trans (Ex.new (o := .own y) hdx)
      have hy' : (upd (upd (upd H1 d0 (.dK [])) d0 (.dK kvs1)) dx (.own y)) y = none := by rw [upd_ne (Ne.symm hne)]; exact hy
      have x5 := x4.trans (Ex.new (o := .ins CB dx []) hy')
      have x6 := x5.trans (Ex.new (o := .dK kvs1) hd2)
      have hyd2 : y ≠ d2 := fun z => by rw [← z, upd_same] at hd2; cases hd2
      refine ⟨y, dx, d2, kvs1, B, rfl, ?_, upd_same, hp1.kr (.of_ex x6), ok, fun H2 pd kvs2 kp hy2 hpd hp2 => ⟨rfl, ?_⟩⟩
      · rw [upd_ne hyd2, upd_same]
      · have yn : H1 y = none := fresh_back x3 hy
        have yn0 : H y = none := fresh_back e1 yn
        refine k H2 y (fun a u ha => ?_) yn0 ⟨dx, pd, hy2, kvs2, .inl hpd, hp2⟩
        exact kp a u (ne_of_none ha yn0) (x6 _ _ (e1 _ _ ha))
abbrev N_book_commands : List Str := ["self"]
theorem sc_book_commands : FnScope N_book_commands ["self"] (defScope (cBook 2)) := ⟨rfl, rfl, rfl, by decide +kernel, rfl, by decide +kernel, by decide +kernel⟩
theorem ok_book_commands {P : Program} {w : World} {K : PySem.W.Frag} {mg : Str → Option Value} {base : Heap} {CB CS CI : Addr} (T : Txt K mg CB CS CI) {f : Addr} {fd : FuncData} (F : Fun K "commands" "Book.commands" (cBook 2) f fd) : FnOk P w K mg base CX0 1 f fd ["self"] (sp_book_commands K CB) := by
  refine F.ok sc_book_commands (fun vs H Q E h => ?_) (fun cdv A outer s H vs Q E hr h => ?_)
  · obtain ⟨b, B, rfl, _⟩ := h
    rfl
  · obtain ⟨b, B, rfl, ⟨dx, pd, hb, kvs, hr1, hp⟩, k⟩ := h
    have hu := hu_of hr
    refine ⟨_, (pss_one (ps_ret (pe_callTy (call_tupleD rfl) (by rfl) T.ztuple bt_tuple (pa_cons (pe_fld (pv 0) rfl) pa_nil)))), ?_⟩
    refine ⟨_, rfl, b, CB, dx, _, _, rfl, hb, T.clB, T.nB, lk_own pd, pd, kvs, rfl, hr1, fun p hp0 => ?_⟩
    obtain ⟨ns, en, pn⟩ := hp.ks
    have e : (kvs.map fun kv => kV kv.1) = ns.map V.str := by
      have : (kvs.map (·.1)).map kV = (ns.map Sum.inr).map kV := by rw [en]
      rw [List.map_map, List.map_map] at this
      exact this
    rw [e]
    exact k _ p ns (Ex.new hp0) hp0 upd_same pn
abbrev N_outcomes : List Str := ["self", "command"]
theorem sc_outcomes : FnScope N_outcomes ["self", "command"] (defScope (cBook 5)) := ⟨rfl, rfl, rfl, by decide +kernel, rfl, by decide +kernel, by decide +kernel⟩
theorem ok_outcomes {P : Program} {w : World} {K : PySem.W.Frag} {mg : Str → Option Value} {base : Heap} {CB CS CI : Addr} (T : Txt K mg CB CS CI) : Ml P w K mg base CX0 3 CB "outcomes" ["self", "command"] (sp_outcomes_in K CB) := T.ocB.ml fun f fd F => by
  refine F.ok sc_outcomes (fun vs H Q E h => ?_) (fun cdv A outer s H vs Q E hr h => ?_)
  · obtain ⟨b, B, c, t, ys, rfl, _⟩ := h
    rfl
  · obtain ⟨b, B, c, t, ys, rfl, hB, ok, hc, k⟩ := h
    have hu := hu_of hr
    refine ⟨_, (pss_cons (ps_expr (pc0 (ok_require_command T) hr (pa_cons (pv 0) (pa_cons (pv 1) pa_nil))))
      (pss_one (ps_ret (pc0 (ok_outcomes_in T) hr (pa_cons (pv 0) (pa_cons (pv 1) pa_nil)))))), ?_⟩
    refine ⟨_, rfl, _, rfl, b, B, c, rfl, hB, List.mem_map.mpr ⟨_, hc, rfl⟩, fun H1 e1 => ?_⟩
    refine ⟨_, rfl, _, rfl, b, B, c, t, ys, rfl, hB.kr (.of_ex e1), ok, hc, fun H2 p zs e2 hp h2 pm => k H2 p zs (e1.trans e2) (fresh_back e1 hp) h2 pm⟩
end Sk
namespace Sk
open PySem L2 KwX Evl RZ
/-! ### tables: a state's entries by command (outcome, next state), its next state behind a kept deal -/
abbrev Ent := List (Str × (Str × Str))
abbrev Tb := List (Str × (Ent × Str))
structure EnOk (B : Bk) (S : List Str) (es : Ent) (kp : Str) : Prop where
  ks : (es.map (·.1)).Perm (B.map (·.1))
  kp : kp ∈ S
  en : ∀ e ∈ es, e.2.2 ∈ S ∧ ∃ t ys, (e.1, t, ys) ∈ B ∧ e.2.1 ∈ ("failed" : Str) :: ys
structure TbOk (B : Bk) (T : Tb) : Prop where
  n1 : 1 ≤ T.length
  n12 : T.length ≤ 12
  nd : (T.map (·.1)).Nodup
  nm : ∀ s ∈ T.map (·.1), isNm s = true
  en : ∀ x ∈ T, EnOk B (T.map (·.1)) x.2.1 x.2.2
def EntV (K : PySem.W.Frag) (H : Hp) (v : V) (o s : Str) : Prop := ∃ p, v = .ref p ∧ SqT K H p [.str o, .str s]
theorem EntV.kr {K : PySem.W.Frag} {H H' : Hp} {v : V} {o s : Str} (k : Kr H H') (h : EntV K H v o s) : EntV K H' v o s := let ⟨p, e, h1⟩ := h; ⟨p, e, k.tup h1⟩
/-- the dict of a state -/
structure EDv (K : PySem.W.Frag) (H : Hp) (kvs : List (Key × V)) (es : Ent) (kp : Str) : Prop where
  ks : ∃ ns : List Str, kvs.map (·.1) = ns.map Sum.inr ∧ ns.Perm (es.map (·.1) ++ [("kept" : Str)])
  get : ∀ e ∈ es, ∃ v, valV kvs (Sum.inr e.1 : Key) = some v ∧ EntV K H v e.2.1 e.2.2
  kept : valV kvs (Sum.inr "kept" : Key) = some (.str kp)
theorem EDv.kr {K : PySem.W.Frag} {H H' : Hp} {kvs : List (Key × V)} {es : Ent} {kp : Str} (k : Kr H H') (h : EDv K H kvs es kp) : EDv K H' kvs es kp :=
  ⟨h.ks, fun e he => let ⟨v, q, p⟩ := h.get e he; ⟨v, q, p.kr k⟩, h.kept⟩
/-- the dict of states -/
structure TDv (K : PySem.W.Frag) (H : Hp) (tk : List (Key × V)) (T : Tb) : Prop where
  ks : ∃ ss : List Str, tk.map (·.1) = ss.map Sum.inr ∧ ss.Perm (T.map (·.1))
  get : ∀ x ∈ T, ∃ e kvs, valV tk (Sum.inr x.1 : Key) = some (.ref e) ∧ Rd H e (.dK kvs) ∧ EDv K H kvs x.2.1 x.2.2
theorem TDv.kr {K : PySem.W.Frag} {H H' : Hp} {tk : List (Key × V)} {T : Tb} (k : Kr H H') (h : TDv K H tk T) : TDv K H' tk T :=
  ⟨h.ks, fun x hx => let ⟨e, kvs, q, r, p⟩ := h.get x hx; ⟨e, kvs, q, k.dic r, p.kr k⟩⟩
theorem TDv.isSome {K : PySem.W.Frag} {H : Hp} {tk : List (Key × V)} {T : Tb} (h : TDv K H tk T) {s : Str} (hs : s ∈ T.map (·.1)) : (valV tk (Sum.inr s : Key)).isSome = true := by
  obtain ⟨x, hx, e⟩ := List.mem_map.mp hs
  obtain ⟨a, kvs, q, _⟩ := h.get x hx
  have e' : x.1 = s := e
  rw [← e', q]
  rfl
theorem TDv.len {K : PySem.W.Frag} {H : Hp} {tk : List (Key × V)} {T : Tb} (h : TDv K H tk T) : tk.length = T.length := by
  obtain ⟨ss, e, p⟩ := h.ks
  have h1 : tk.length = ss.length := by
    have := congrArg List.length e
    simpa using this
  have h2 := p.length_eq
  rw [List.length_map] at h2
  omega
theorem kept_res : ("kept" : Str) ∈ reserved := by decide +kernel
theorem BkOk.nk {B : Bk} (ok : BkOk B) {c : Str} (h : c ∈ B.map (·.1)) : c ≠ "kept" := by
  obtain ⟨b, hb, e⟩ := List.mem_map.mp h
  have e' : b.1 = c := e
  rintro rfl
  have := (ok.ans b hb).2
  rw [e'] at this
  exact this kept_res
theorem lk_oc (pd : Addr) : List.lookup ("outcomes" : Str) [(("own_pairs" : Str), V.ref pd)] = none := by
  have h : (("outcomes" : Str) == "own_pairs") = false := by decide +kernel
  simp [List.lookup, h]
def sp_is_state : Sp := fun vs H Q _ => ∃ (t : Addr) (tk : List (Key × V)) (x : Str), vs = [.ref t, .str x] ∧ Rd H t (.dK tk) ∧ ∀ H', Ex H H' → Q (.bl (valV tk (Sum.inr x : Key)).isSome) H'
def sp_is_entry_servers (K : PySem.W.Frag) (CB : Addr) : Sp := fun vs H Q _ => ∃ (b : Addr) (B : Bk) (t : Addr) (tk : List (Key × V)) (key : Str) (v : V), vs = [.ref b, .ref t, .str key, v] ∧ BookAt K CB H b B ∧ BkOk B ∧ Rd H t (.dK tk) ∧
  ((key = "kept" ∧ ∃ s, v = .str s ∧ (valV tk (Sum.inr s : Key)).isSome = true) ∨ (key ≠ "kept" ∧ ∃ ty ys o s, (key, ty, ys) ∈ B ∧ EntV K H v o s ∧ o ∈ ("failed" : Str) :: ys ∧ (valV tk (Sum.inr s : Key)).isSome = true)) ∧
  ∀ H', Ex H H' → Q (.bl true) H'
def sp_are_entries (K : PySem.W.Frag) (CB : Addr) : Sp := fun vs H Q _ => ∃ (b : Addr) (B : Bk) (t : Addr) (tk : List (Key × V)) (T : Tb) (e : Addr) (kvs : List (Key × V)) (es : Ent) (kp : Str), vs = [.ref b, .ref t, .ref e] ∧ BookAt K CB H b B ∧ BkOk B ∧ Rd H t (.dK tk) ∧ TDv K H tk T ∧
  Rd H e (.dK kvs) ∧ EDv K H kvs es kp ∧ EnOk B (T.map (·.1)) es kp ∧ ∀ H', Ex H H' → Q (.bl true) H'
def sp_is_table (K : PySem.W.Frag) (CB : Addr) : Sp := fun vs H Q _ => ∃ (b : Addr) (B : Bk) (t : Addr) (tk : List (Key × V)) (T : Tb), vs = [.ref b, .ref t] ∧ BookAt K CB H b B ∧ BkOk B ∧ H t = some (.dK tk) ∧ TDv K H tk T ∧ TbOk B T ∧ ∀ H', Ex H H' → Q (.bl true) H'
abbrev N_is_state : List Str := ["states", "value"]
theorem sc_is_state : FnScope N_is_state ["states", "value"] (defScope (topS 35)) := ⟨rfl, rfl, rfl, by decide +kernel, rfl, by decide +kernel, by decide +kernel⟩
theorem ok_is_state {P : Program} {w : World} {K : PySem.W.Frag} {mg : Str → Option Value} {base : Heap} {CB CS CI : Addr} (T : Txt K mg CB CS CI) : Cl P w K mg base CX0 1 "is_state" ["states", "value"] (sp_is_state) := T.f_is_state.cl fun f fd F => by
  refine F.ok sc_is_state (fun vs H Q E h => ?_) (fun cdv A outer s H vs Q E hr h => ?_)
  · obtain ⟨t, tk, x, rfl, _⟩ := h
    rfl
  · obtain ⟨t, tk, x, rfl, hr1, k⟩ := h
    have hu := hu_of hr
    refine ⟨_, (pss_one (ps_ret (pe_and (pe_callB call_isi (by rfl) T.zisi bt_isi (pa_cons (pv 1) (pa_cons (pty T.zstr bt_str) pa_nil))) (pe_one (pe_cmp (pc_din hu (pv 1) (pv 0)) rfl))))), ?_⟩
    refine ⟨_, rfl, _, _, _, _, _, rfl, .ty _, .base (.str x), kit_ty kb_ss, _, rfl, ?_⟩
    exact ⟨_, rfl, _, rfl, t, _, rfl, dgetS hr1 rfl, k H (Ex.refl H)⟩
abbrev N_is_entry_servers : List Str := ["book", "states", "key", "value"]
theorem sc_is_entry_servers : FnScope N_is_entry_servers ["book", "states", "key", "value"] (defScope (topS 36)) := ⟨rfl, rfl, rfl, by decide +kernel, rfl, by decide +kernel, by decide +kernel⟩
theorem ok_is_entry_servers {P : Program} {w : World} {K : PySem.W.Frag} {mg : Str → Option Value} {base : Heap} {CB CS CI : Addr} (T : Txt K mg CB CS CI) : Cl P w K mg base CX0 4 "is_entry_servers" ["book", "states", "key", "value"] (sp_is_entry_servers K CB) := T.f_is_entry_servers.cl fun f fd F => by
  refine F.ok sc_is_entry_servers (fun vs H Q E h => ?_) (fun cdv A outer s H vs Q E hr h => ?_)
  · obtain ⟨b, B, t, tk, key, v, rfl, _⟩ := h
    rfl
  · obtain ⟨b, B, t, tk, key, v, rfl, hB, ok, ht, hc, k⟩ := h
    have hu := hu_of hr
    obtain ⟨t_KEPT, h_KEPT⟩ := T.cKept
    refine ⟨_, (pss_cons (ps_if (pt_cmpR op_eq (pv 2) (pgS h_KEPT) (nomark _)) (pss_one (ps_ret (pc0 (ok_is_state T) hr (pa_cons (pv 1) (pa_cons (pv 3) pa_nil))))) pss_nil)
      (pss_cons (ps_if (PW.pt (pw_or (pt_not (pt_val (pe_callB call_isi (by rfl) T.zisi bt_isi (pa_cons (pv 3) (pa_cons (pty T.ztuple bt_tuple) pa_nil))))) (pw_or1 (pt_cmpR op_ne (pe_callB call_len_seq (by rfl) T.zlen bt_len (pa_cons (pv 3) pa_nil)) pe_int (nomark _))))) (pss_one (ps_ret pe_bl)) pss_nil)
      (pss_one (ps_ret (pe_and (pe_callB call_isi (by rfl) T.zisi bt_isi (pa_cons (pe_ix ix_tup (pv 3) pe_int (fun _ _ => rfl)) (pa_cons (pty T.zstr bt_str) pa_nil))) (pe_and (pe_cmpR op_in_seq (pe_ix ix_tup (pv 3) pe_int (fun _ _ => rfl)) (pm0 (ok_outcomes T) T.clB hr (pv 0) (pa_cons (pv 2) pa_nil)) (by rfl)) (pe_one (pc0 (ok_is_state T) hr (pa_cons (pv 1) (pa_cons (pe_ix ix_tup (pv 3) pe_int (fun _ _ => rfl)) pa_nil)))))))))), ?_⟩
    rcases hc with ⟨rfl, s1, rfl, hs1⟩ | ⟨hk, ty, ys, o, s1, hm, ⟨p, rfl, hp⟩, ho, hs1⟩
    · refine ⟨_, rfl, rfl, _, rfl, ?_⟩
      refine iteDT rfl ?_
      refine ⟨_, rfl, _, rfl, t, tk, s1, rfl, ht, fun H1 e1 => ?_⟩
      rw [hs1]
      exact k H1 e1
    · refine ⟨_, rfl, rfl, _, rfl, ?_⟩
      refine iteDF (fun z => hk (V.str.inj z)) ?_
      refine ⟨_, rfl, _, _, _, _, _, rfl, .ty _, tyx_tup hp, kit_ty kb_tt, _, rfl, ?_⟩
      refine ⟨_, rfl, p, _, rfl, .inr hp, rfl, _, rfl, ?_⟩
      refine ⟨_, rfl, p, _, (0 : Int), _, rfl, rfl, hp, rfl, _, _, _, _, _, rfl, .ty _, .base (.str o), kit_ty kb_ss, _, rfl, ?_⟩
      obtain ⟨dx, pd, hb, hpd⟩ := id hB
      refine ⟨_, rfl, p, _, (0 : Int), _, rfl, rfl, hp, rfl, _, rfl, b, dx, _, rfl, hb, lk_oc pd, _, rfl, b, B, key, ty, ys, rfl, hB, ok, hm, fun H1 q zs e1 hq hq1 pm => ?_⟩
      refine ⟨q, _, rfl, .inr (SqT.of hq1), rfl, flat_strs _, _, rfl, ?_⟩
      refine iteBT (by rw [inV_str]; exact decide_eq_true (pm.mem_iff.mpr ho)) ?_
      have hp1 := ex_t e1 hp
      refine ⟨_, rfl, _, rfl, p, _, (1 : Int), _, rfl, rfl, hp1, rfl, t, tk, s1, rfl, ex_rd e1 ht, fun H2 e2 => ?_⟩
      rw [hs1]
      exact k H2 (e1.trans e2)
abbrev N_are_entries : List Str := ["book", "states", "value", "words", "word"]
theorem sc_are_entries : FnScope N_are_entries ["book", "states", "value"] (defScope (topS 38)) := ⟨rfl, rfl, rfl, by decide +kernel, rfl, by decide +kernel, by decide +kernel⟩
theorem ok_are_entries {P : Program} {w : World} {K : PySem.W.Frag} {mg : Str → Option Value} {base : Heap} {CB CS CI : Addr} (T : Txt K mg CB CS CI) : Cl P w K mg base CX0 5 "are_entries" ["book", "states", "value"] (sp_are_entries K CB) := T.f_are_entries.cl fun f fd F => by
  refine F.ok sc_are_entries (fun vs H Q E h => ?_) (fun cdv A outer s H vs Q E hr h => ?_)
  · obtain ⟨b, B, t, tk, TT, e, kvs, es, kp, rfl, _⟩ := h
    rfl
  · obtain ⟨b, B, t, tk, TT, e, kvs, es, kp, rfl, hB, ok, ht, hT, he, hE, en, k⟩ := h
    have hu := hu_of hr
    obtain ⟨pp, gp, fdp, hpr, Fpr, bpr⟩ := T.prB
    have Gpr := ok_book_commands (P := P) (w := w) (mg := mg) (base := base) T Fpr
    obtain ⟨t_KEPT, h_KEPT⟩ := T.cKept
    refine ⟨_, (pss_cons (ps_set (i := 3) sc_are_entries.nd rfl (Or.inl rfl) (pe_lst (StX.pa_star (pe_prop (pv 0) T.clB hpr Gpr (hr.mono (by decide)) bpr .nil pass0 rfl) (pa_cons (pgS h_KEPT) pa_nil))))
      (pss_cons (ps_if (PW.pt (pw_or (pt_not (pt_val (pe_callB call_isi (by rfl) T.zisi bt_isi (pa_cons (pv 2) (pa_cons (pty T.zdict bt_dict) pa_nil))))) (pw_or1 (pt_cmpR op_ne (pe_callB call_lenR (by rfl) T.zlen bt_len (pa_cons (pv 2) pa_nil)) (pe_callB call_len_seq (by rfl) T.zlen bt_len (pa_cons (pv 3) pa_nil)) (nomark _))))) (pss_one (ps_ret pe_bl)) pss_nil)
      (pss_one (ps_ret (pe_callB (cr_all rfl) (by rfl) T.zall bt_all (pa_cons (pe_lc (own := [("word", 4)]) (g := gName 4) (tt := tYes) rfl sc_are_entries.nd (pi_list (pv 3)) (blkOk_by (N := N_are_entries) (sc := defScope (topS 38)) (by decide +kernel)) (fun _ _ _ _ _ => (pg_name (i := 4) sc_are_entries.nd rfl (Or.inl rfl))) (fun _ _ _ _ _ => pts_nil) (fun _ _ _ _ _ => (pe_and (pe_cmp (pc_din hu (pv 4) (pv 2)) rfl) (pe_one (pc0 (ok_is_entry_servers T) hr (pa_cons (pv 0) (pa_cons (pv 1) (pa_cons (pv 4) (pa_cons (pe_dget hu (pv 2) (pv 4) (fun _ _ => rfl)) pa_nil))))))))) pa_nil)))))), ?_⟩
    obtain ⟨dx, pd, hb, hpd⟩ := id hB
    have b4 := ok.n4
    have esl : es.length = B.length := by
      have := en.ks.length_eq
      simpa using this
    have kvl : kvs.length = es.length + 1 := by
      obtain ⟨ns, e1, p1⟩ := hE.ks
      have h1 := congrArg List.length e1
      have h2 := p1.length_eq
      simp only [List.length_map, List.length_append, List.length_singleton] at h1 h2
      omega
    refine ⟨_, rfl, b, dx, _, rfl, hb, b, B, rfl, hB, fun H1 p ns e1 hp hp1 pm => ?_⟩
    have nsl : ns.length = B.length := by
      have := pm.length_eq
      simpa using this
    have el : ns.map V.str ++ [V.str "kept"] = (ns ++ [("kept" : Str)]).map V.str := by rw [List.map_append]; rfl
    have ell : (ns.map V.str ++ [V.str "kept"]).length ≤ sizeLine := by
      rw [List.length_append, List.length_map, List.length_singleton]
      exact sz1000 (by omega)
    refine ⟨p, _, rfl, .inl (SqT.of hp1), ell, fun l hl => ?_⟩
    rw [el]
    have x1 : Ex H (upd H1 l (.lst ((ns ++ [("kept" : Str)]).map V.str))) := e1.trans (Ex.new hl)
    have wl : ((ns ++ [("kept" : Str)]).map V.str).length = B.length + 1 := by
      rw [List.length_map, List.length_append, List.length_singleton]
      omega
    refine ⟨_, rfl, _, _, _, _, _, rfl, .ty _, tyx_dic (ex_rd x1 he), kit_ty kb_dd, _, rfl, ?_⟩
    refine ⟨_, rfl, e, kvs, rfl, ex_rd x1 he, _, rfl, l, _, rfl, .inl (SqL.of upd_same), rfl, _, rfl, ?_⟩
    refine iteNT (by rw [wl, kvl, esl]) ?_
    refine ⟨_, rfl, l, rfl, ⟨_, SqL.of upd_same⟩, fun D hD => ?_⟩
    refine lc_mapN (w := walk_list (xs := (ns ++ [("kept" : Str)]).map V.str)) hD (by omega) (fun _ => rfl) (fun H2 e2 => ex_l e2 (SqL.of upd_same)) (fun i => .bl true) (fun i x H2 H3 hi e2 y => ?_) (fun H2 e2 hl2 => ?_)
    · obtain ⟨rfl, hx⟩ := y
      obtain ⟨c, hc, rfl⟩ := List.mem_map.mp (List.mem_of_getElem? hx)
      refine ⟨Ex.refl _, fun H4 e4 Q4 q4 => ?_⟩
      have x4 := (x1.trans e2).trans e4
      have he4 := ex_rd x4 he
      rcases List.mem_append.mp hc with hc | hc
      · have mB := pm.mem_iff.mp hc
        obtain ⟨e0, he0, ee0⟩ := List.mem_map.mp (en.ks.mem_iff.mpr mB)
        have ee0 : e0.1 = c := ee0
        obtain ⟨v, hv, ev⟩ := hE.get e0 he0
        obtain ⟨hs2, ty, ys, hm, ho⟩ := en.en e0 he0
        rw [ee0] at hv hm
        refine ⟨_, rfl, _, rfl, e, _, rfl, dgetS he4 hv, _, rfl, ?_⟩
        refine iteBT rfl ?_
        refine ⟨_, rfl, _, rfl, _, rfl, _, rfl, _, rfl, e, v, rfl, dgetS he4 hv, b, B, t, tk, c, v, rfl, hB.kr (.of_ex x4), ok, ex_rd x4 ht, .inr ⟨ok.nk mB, ty, ys, e0.2.1, e0.2.2, hm, ev.kr (.of_ex x4), ho, hT.isSome hs2⟩, fun H5 e5 => q4 H5 e5⟩
      · have hc := List.mem_singleton.mp hc
        subst hc
        refine ⟨_, rfl, _, rfl, e, _, rfl, dgetS he4 hE.kept, _, rfl, ?_⟩
        refine iteBT rfl ?_
        refine ⟨_, rfl, _, rfl, _, rfl, _, rfl, _, rfl, e, _, rfl, dgetS he4 hE.kept, b, B, t, tk, _, _, rfl, hB.kr (.of_ex x4), ok, ex_rd x4 ht, .inl ⟨rfl, kp, rfl, hT.isSome en.kp⟩, fun H5 e5 => q4 H5 e5⟩
    · refine ⟨D, (List.range ((ns ++ [("kept" : Str)]).map V.str).length).map fun _ => true, rfl, SqL.of ?_, ?_⟩
      · rw [hl2, List.map_map]
        rfl
      · rw [all_true_range (fun _ _ => rfl)]
        exact k _ (x1.trans e2)
abbrev N_is_table : List Str := ["book", "value", "state"]
theorem sc_is_table : FnScope N_is_table ["book", "value"] (defScope (topS 39)) := ⟨rfl, rfl, rfl, by decide +kernel, rfl, by decide +kernel, by decide +kernel⟩
theorem ok_is_table {P : Program} {w : World} {K : PySem.W.Frag} {mg : Str → Option Value} {base : Heap} {CB CS CI : Addr} (T : Txt K mg CB CS CI) : Cl P w K mg base CX0 6 "is_table" ["book", "value"] (sp_is_table K CB) := T.f_is_table.cl fun f fd F => by
  refine F.ok sc_is_table (fun vs H Q E h => ?_) (fun cdv A outer s H vs Q E hr h => ?_)
  · obtain ⟨b, B, t, tk, TT, rfl, _⟩ := h
    rfl
  · obtain ⟨b, B, t, tk, TT, rfl, hB, ok, ht, hT, okT, k⟩ := h
    have hu := hu_of hr
    obtain ⟨t_MAX_STATES, h_MAX_STATES⟩ := T.cMaxS
    refine ⟨_, (pss_cons (ps_if (PW.pt (pw_or (pt_not (pt_val (pe_callB call_isi (by rfl) T.zisi bt_isi (pa_cons (pv 1) (pa_cons (pty T.zdict bt_dict) pa_nil))))) (pw_or1 (pt_not (pt_chain op_le op_le pe_int (pe_callB call_lenR (by rfl) T.zlen bt_len (pa_cons (pv 1) pa_nil)) (pgI h_MAX_STATES)))))) (pss_one (ps_ret pe_bl)) pss_nil)
      (pss_one (ps_ret (pe_callB (cr_all rfl) (by rfl) T.zall bt_all (pa_cons (pe_lock (pe_lc (own := [("state", 2)]) (g := gName 2) (tt := tYes) rfl sc_is_table.nd (pi_keys (pv 1)) (blkOk_by (N := N_is_table) (sc := defScope (topS 39)) (by decide +kernel)) (fun _ _ _ _ _ => (pg_name (i := 2) sc_is_table.nd rfl (Or.inl rfl))) (fun _ _ _ _ _ => pts_nil) (fun _ _ _ _ _ => (pe_and (pc0 (ok_is_name T) hr (pa_cons (pv 2) pa_nil)) (pe_one (pc0 (ok_are_entries T) hr (pa_cons (pv 0) (pa_cons (pv 1) (pa_cons (pe_dget hu (pv 1) (pv 2) (fun _ _ => rfl)) pa_nil))))))))) pa_nil))))), ?_⟩
    have hl := hT.len
    have b1 := okT.n1
    have b12 := okT.n12
    refine ⟨_, rfl, _, _, _, _, _, rfl, .ty _, .base (.dK ht), kit_ty kb_dd, _, rfl, ?_⟩
    refine ⟨_, rfl, t, tk, rfl, .inl ht, _, _, rfl, rfl, _, rfl, ?_⟩
    refine iteDT (by omega) ?_
    refine ⟨_, _, rfl, rfl, _, rfl, ?_⟩
    refine iteNT (by omega) ?_
    refine ⟨t, _, ht, trivial, fun od => ?_⟩
    have kl : Kr H (upd H t (.frz od (.dK tk))) := Kr.lock ht
    refine ⟨_, rfl, t, od, rfl, .inl ⟨tk, upd_same, fun D hD => ?_⟩⟩
    refine lc_mapN (w := walk_keys) hD (by omega) (fun _ => rfl) (fun H2 e2 => e2 _ _ upd_same) (fun i => .bl true) (fun i x H2 H3 hi e2 y => ?_) (fun H2 e2 hl2 => ?_)
    · obtain ⟨rfl, k0, v0, hk0, rfl⟩ := y
      obtain ⟨ss, es, ps⟩ := hT.ks
      have m0 : k0 ∈ tk.map (·.1) := List.mem_map.mpr ⟨(k0, v0), List.mem_of_getElem? hk0, rfl⟩
      rw [es] at m0
      obtain ⟨s1, hs1, rfl⟩ := List.mem_map.mp m0
      have mT := ps.mem_iff.mp hs1
      obtain ⟨x, hx, ex⟩ := List.mem_map.mp mT
      have ex : x.1 = s1 := ex
      obtain ⟨e, kvs, q, r, pe⟩ := hT.get x hx
      rw [ex] at q
      refine ⟨Ex.refl _, fun H4 e4 Q4 q4 => ?_⟩
      refine ⟨_, rfl, .str s1, rfl, isNm_1000 (okT.nm s1 mT), fun H5 e5 => ⟨_, rfl, ?_⟩⟩
      refine iteBT (okT.nm s1 mT) ?_
      have x5 : Ex (upd H t (.frz od (.dK tk))) H5 := (e2.trans e4).trans e5
      have k5 : Kr H H5 := kl.trans (.of_ex x5)
      have ht5 : H5 t = some (.frz od (.dK tk)) := x5 _ _ upd_same
      refine ⟨_, rfl, _, rfl, _, rfl, _, rfl, t, _, rfl, dgetS (.inr ⟨od, ht5⟩) q, b, B, t, tk, TT, e, kvs, x.2.1, x.2.2, rfl, hB.kr k5, ok, .inr ⟨od, ht5⟩, hT.kr k5, k5.dic r, pe.kr k5, okT.en x hx, fun H6 e6 => q4 H6 (e5.trans e6)⟩
    · refine ⟨e2 _ _ upd_same, ?_⟩
      have x1 : Ex H (upd H2 t (.dK tk)) := ex_unlock ht e2
      have hDd : D ≠ t := by
        rintro rfl
        rw [upd_same] at hD
        cases hD
      refine ⟨D, (List.range tk.length).map fun _ => true, rfl, SqL.of ?_, ?_⟩
      · rw [upd_ne hDd, hl2, List.map_map]
        rfl
      · rw [all_true_range (fun _ _ => rfl)]
        exact k _ x1
end Sk
namespace Sk
open PySem L2 KwX Evl RZ
theorem find_at {α : Type} {l : List (Str × α)} {s : Str} (h : s ∈ l.map (·.1)) : ∃ x, l.find? (fun x => decide (x.1 = s)) = some x ∧ x ∈ l ∧ x.1 = s := by
  obtain ⟨y, hy, ey⟩ := List.mem_map.mp h
  cases q : l.find? (fun x => decide (x.1 = s)) with
  | none =>
    have := List.find?_eq_none.mp q y hy
    exact absurd (decide_eq_true ey) this
  | some x => exact ⟨x, rfl, List.mem_of_find?_eq_some q, by have := List.find?_some q; simpa using this⟩
theorem tyes {σ : L2.St} {H : Hp} {A B : Hp → Prop} (h : A H) : tYes σ H (fun b H3 => if b = true then A H3 else B H3) := by
  unfold tYes
  dsimp only
  rw [if_pos rfl]
  exact h
theorem valV_some : ∀ {kvs : List (Key × V)} {k : Key}, k ∈ kvs.map (·.1) → ∃ v, valV kvs k = some v
  | [], _, h => by cases h
  | p :: r, k, h => by
    by_cases e : p.1 = k
    · exact ⟨_, valV_pos e⟩
    · have h' : k ∈ r.map (·.1) := by
        rcases List.mem_cons.mp h with q | q
        · exact absurd q.symm e
        · exact q
      obtain ⟨v, hv⟩ := valV_some h'
      refine ⟨v, ?_⟩
      unfold valV at hv ⊢
      rw [List.find?_cons, decide_eq_false e]
      exact hv
theorem valV_left {kvs : List (Key × V)} {k k' : Key} {v v' : V} (h : valV kvs k = some v) : valV (kvs ++ [(k', v')]) k = some v := by
  unfold valV at h ⊢
  rw [List.find?_append]
  cases q : kvs.find? (fun p => decide (p.1 = k)) with
  | none => rw [q] at h; cases h
  | some p => rw [q] at h; exact h
theorem valV_right {kvs : List (Key × V)} {k : Key} {v' : V} (h : valV kvs k = none) : valV (kvs ++ [(k, v')]) k = some v' := by
  unfold valV at h ⊢
  rw [List.find?_append]
  cases q : kvs.find? (fun p => decide (p.1 = k)) with
  | none => simp
  | some p => rw [q] at h; cases h
theorem rd_inj {H : Hp} {a : Addr} {k1 k2 : List (Key × V)} (h1 : Rd H a (.dK k1)) (h2 : Rd H a (.dK k2)) : k1 = k2 := by
  rcases h1 with h1 | ⟨o1, h1⟩ <;> rcases h2 with h2 | ⟨o2, h2⟩ <;> rw [h1] at h2 <;> cases h2 <;> rfl
def copyK (ys : List Str) (kvs : List (Key × V)) : List (Key × V) := (List.range (ys.map V.str).length).map fun i => ((Sum.inr (ys.getD i Str.empty) : Key), (valV kvs (Sum.inr (ys.getD i Str.empty) : Key)).getD .non)
theorem copyK_keys (ys : List Str) (kvs : List (Key × V)) : (copyK ys kvs).map (·.1) = ys.map Sum.inr := by
  unfold copyK
  rw [List.length_map, List.map_map]
  show (List.range ys.length).map (fun i => (Sum.inr (ys.getD i Str.empty) : Key)) = _
  conv => rhs; rw [← range_getD ys Str.empty]
  rw [List.map_map]
  rfl
theorem copyK_get {ys : List Str} {kvs : List (Key × V)} {s : Str} {v : V} (nd : ys.Nodup) (hs : s ∈ ys) (hv : valV kvs (Sum.inr s : Key) = some v) : valV (copyK ys kvs) (Sum.inr s : Key) = some v := by
  obtain ⟨i, hi, ei⟩ := List.mem_iff_getElem.mp hs
  refine valV_mem ?_ ?_
  · rw [copyK_keys]
    exact List.pairwise_map.mpr (nd.imp fun h e => h (Sum.inr.inj e))
  · refine List.mem_map.mpr ⟨i, List.mem_range.mpr (by rw [List.length_map]; exact hi), ?_⟩
    rw [getD_lt hi, ei, hv]
    rfl
theorem kv_strs {kvs : List (Key × V)} {ns : List Str} (en : kvs.map (·.1) = ns.map Sum.inr) : (kvs.map fun kv => kV kv.1) = ns.map V.str := by
  have : (kvs.map (·.1)).map kV = (ns.map Sum.inr).map kV := by rw [en]
  rw [List.map_map, List.map_map] at this
  exact this
/-- what keeps tuples and dicts -/
structure Kd (K : PySem.W.Frag) (H H' : Hp) : Prop where
  tup : Kt K H H'
  dic : ∀ a kvs, Rd H a (.dK kvs) → Rd H' a (.dK kvs)
theorem Kd.of_ex {K : PySem.W.Frag} {H H' : Hp} (e : Ex H H') : Kd K H H' := ⟨fun _ _ h => ex_t e h, fun _ _ h => ex_rd e h⟩
theorem Kd.trans {K : PySem.W.Frag} {H H1 H2 : Hp} (a : Kd K H H1) (b : Kd K H1 H2) : Kd K H H2 := ⟨fun x xs h => b.tup x xs (a.tup x xs h), fun x k h => b.dic x k (a.dic x k h)⟩
theorem Kd.ins {K : PySem.W.Frag} {H : Hp} {x C dx : Addr} {fs : List (Str × V)} {u : HO} (h : H x = some (.ins C dx fs)) : Kd K H (upd H x u) := by
  refine ⟨Kt.upd h (fun _ z => by cases z) (fun _ _ z => by cases z), ?_⟩
  rintro c kvs (h1 | ⟨ob, h1⟩)
  · exact .inl (by rw [upd_ne (ne_of h1 h (fun z => by cases z))]; exact h1)
  · exact .inr ⟨ob, by rw [upd_ne (ne_of h1 h (fun z => by cases z))]; exact h1⟩
theorem EDv.kd {K : PySem.W.Frag} {H H' : Hp} {kvs : List (Key × V)} {es : Ent} {kp : Str} (k : Kd K H H') (h : EDv K H kvs es kp) : EDv K H' kvs es kp :=
  ⟨h.ks, fun e he => let ⟨v, q, p, e1, e2⟩ := h.get e he; ⟨v, q, p, e1, k.tup _ _ e2⟩, h.kept⟩
theorem TDv.kd {K : PySem.W.Frag} {H H' : Hp} {tk : List (Key × V)} {T : Tb} (k : Kd K H H') (h : TDv K H tk T) : TDv K H' tk T :=
  ⟨h.ks, fun x hx => let ⟨e, kvs, q, r, p⟩ := h.get x hx; ⟨e, kvs, q, k.dic _ _ r, p.kd k⟩⟩
theorem EDv.len {K : PySem.W.Frag} {H : Hp} {kvs : List (Key × V)} {es : Ent} {kp : Str} (h : EDv K H kvs es kp) : kvs.length = es.length + 1 := by
  obtain ⟨ns, e1, p1⟩ := h.ks
  have h1 := congrArg List.length e1
  have h2 := p1.length_eq
  simp only [List.length_map, List.length_append, List.length_singleton] at h1 h2
  omega
theorem EDv.copy {K : PySem.W.Frag} {H : Hp} {kvs : List (Key × V)} {es : Ent} {kp : Str} (h : EDv K H kvs es kp) {ns ys : List Str} (en : kvs.map (·.1) = ns.map Sum.inr) (pm : ys.Perm ns) (nd : ys.Nodup) : EDv K H (copyK ys kvs) es kp := by
  obtain ⟨ns', e1, p1⟩ := h.ks
  have ee : ns' = ns := by
    rw [e1] at en
    exact (List.map_inj_right fun _ _ h => Sum.inr.inj h).mp en
  subst ee
  refine ⟨⟨ys, copyK_keys ys kvs, pm.trans p1⟩, fun e he => ?_, ?_⟩
  · obtain ⟨v, q, r⟩ := h.get e he
    refine ⟨v, copyK_get nd ((pm.trans p1).mem_iff.mpr (List.mem_append_left _ (List.mem_map.mpr ⟨e, he, rfl⟩))) q, r⟩
  · exact copyK_get nd ((pm.trans p1).mem_iff.mpr (List.mem_append_right _ (by simp))) h.kept
theorem EnOk.nd {B : Bk} {S : List Str} {es : Ent} {kp : Str} (ok : BkOk B) (h : EnOk B S es kp) : (es.map (·.1) ++ [("kept" : Str)]).Nodup := by
  refine List.nodup_append.mpr ⟨h.ks.symm.nodup ok.nd, by simp, fun a ha b hb e => ?_⟩
  have hb := List.mem_singleton.mp hb
  subst hb; subst e
  exact ok.nk (h.ks.mem_iff.mp ha) rfl
theorem EnOk.len {B : Bk} {S : List Str} {es : Ent} {kp : Str} (h : EnOk B S es kp) : es.length = B.length := by
  have := h.ks.length_eq
  simpa using this
/-- a server at v -/
def ServerAt (K : PySem.W.Frag) (CB CS : Addr) (H : Hp) (v : Addr) (B : Bk) (T : Tb) (st : Str) : Prop := ∃ dx b t tk, H v = some (.ins CS dx [(("own_book" : Str), .ref b), (("own_table" : Str), .ref t), (("own_start" : Str), .str st)]) ∧ BookAt K CB H b B ∧ Rd H t (.dK tk) ∧ TDv K H tk T ∧ st ∈ T.map (·.1)
theorem ServerAt.kr {K : PySem.W.Frag} {CB CS : Addr} {H H' : Hp} {v : Addr} {B : Bk} {T : Tb} {st : Str} (k : Kr H H') (h : ServerAt K CB CS H v B T st) : ServerAt K CB CS H' v B T st :=
  let ⟨dx, b, t, tk, h1, h2, h3, h4, h5⟩ := h; ⟨dx, b, t, tk, k.ins _ _ _ _ h1, h2.kr k, k.dic h3, h4.kr k, h5⟩
theorem putF1 (x : V) : putF ("own_book" : Str) x [] = [(("own_book" : Str), x)] := rfl
theorem putF2 (x y : V) : putF ("own_table" : Str) y [(("own_book" : Str), x)] = [(("own_book" : Str), x), (("own_table" : Str), y)] := by
  have h1 : (("own_book" : Str) == "own_table") = false := by decide +kernel
  have h1 := beq_eq_false_iff_ne.mp h1
  simp [putF, h1]
theorem putF3 (x y z : V) : putF ("own_start" : Str) z [(("own_book" : Str), x), (("own_table" : Str), y)] = [(("own_book" : Str), x), (("own_table" : Str), y), (("own_start" : Str), z)] := by
  have h1 : (("own_book" : Str) == "own_start") = false := by decide +kernel
  have h2 : (("own_table" : Str) == "own_start") = false := by decide +kernel
  have h1 := beq_eq_false_iff_ne.mp h1
  have h2 := beq_eq_false_iff_ne.mp h2
  simp [putF, h1, h2]
def scStates : Scope := { kind := ScopeKind.function, names := [(".0", .local), ("state", .cell), ("sorted", .globalImplicit), ("list", .globalImplicit), ("table", .free)], isGenerator := false, isCoroutine := false }
def sp_server_init (K : PySem.W.Frag) (CB CS : Addr) : Sp := fun vs H Q _ => ∃ (x dx b t : Addr) (B : Bk) (tk : List (Key × V)) (TT : Tb) (st : Str), vs = [.ref x, .ref b, .ref t, .str st] ∧ H x = some (.ins CS dx []) ∧ BookAt K CB H b B ∧ BkOk B ∧ H t = some (.dK tk) ∧ TDv K H tk TT ∧ TbOk B TT ∧ st ∈ TT.map (·.1) ∧ b ≠ x ∧
  ∀ (H' : Hp), (∀ a o, a ≠ x → H a = some o → H' a = some o) → ServerAt K CB CS H' x B TT st → Q .non H'
abbrev N_server_init : List Str := ["self", "book", "table", "start", "word", "state"]
theorem sc_server_init : FnScope N_server_init ["self", "book", "table", "start"] (defScope (cServer 0)) := ⟨rfl, rfl, rfl, by decide +kernel, rfl, by decide +kernel, by decide +kernel⟩
theorem ok_server_init {P : Program} {w : World} {K : PySem.W.Frag} {mg : Str → Option Value} {base : Heap} {CB CS CI : Addr} (T : Txt K mg CB CS CI) {f : Addr} {fd : FuncData} (F : Fun K "__init__" "Server.__init__" (cServer 0) f fd) : FnOk P w K mg base CX0 7 f fd ["self", "book", "table", "start"] (sp_server_init K CB CS) := by
  refine F.ok sc_server_init (fun vs H Q E h => ?_) (fun cdv A outer s H vs Q E hr h => ?_)
  · obtain ⟨x, dx, b, t, B, tk, TT, st, rfl, _⟩ := h
    rfl
  · obtain ⟨x, dx, b, t, B, tk, TT, st, rfl, hx, hB, ok, ht, hT, okT, hst, hbx, k⟩ := h
    have hu := hu_of hr
    refine ⟨_, (pss_cons (ps_expr (pc0 (ok_require_book T) hr (pa_cons (pv 1) pa_nil)))
      (pss_cons (ps_if (pt_not (pt_val (pc0 (ok_is_table T) hr (pa_cons (pv 1) (pa_cons (pv 2) pa_nil))))) (pss_one (ps_never)) pss_nil)
      (pss_cons (ps_if (pt_not (pt_val (pc0 (ok_is_state T) hr (pa_cons (pv 2) (pa_cons (pv 3) pa_nil))))) (pss_one (ps_never)) pss_nil)
      (pss_cons (ps_fld (pv 0) (pv 1) rfl)
      (pss_cons (ps_fld (pv 0) (pe_dc (tv := tDc (iList K (tCB (rSortedS K) _)) (gName 4) tYes _ _ _) (own := [("state", 5)]) (g := gName 5) (tt := tYes) rfl sc_server_init.nd (pi_list (pe_callB cr_sortedS (by rfl) T.zsorted bt_sorted (pa_cons (pe_callTy (call_listD rfl) (by rfl) T.zlist bt_list (pa_cons (pv 2) pa_nil)) pa_nil))) (blkOk_by (N := N_server_init) (sc := defScope (cServer 0)) (by decide +kernel)) (fun _ _ _ _ _ => (pg_name (i := 5) sc_server_init.nd rfl (Or.inr rfl))) (fun _ _ _ _ _ => pts_nil) (fun _ _ _ _ _ => (pv 5)) (fun _ _ _ _ _ => (pe_dc (own := [("word", 4)]) (g := gName 4) (tt := tYes) rfl sc_server_init.nd (pi_list (pe_callB cr_sortedS (by rfl) T.zsorted bt_sorted (pa_cons (pe_callTy (call_listD rfl) (by rfl) T.zlist bt_list (pa_cons (pe_dget hu (pv 2) (pv 5) (fun _ _ => rfl)) pa_nil)) pa_nil))) (blkOk_by (N := N_server_init) (sc := relS scStates (defScope (cServer 0))) (by decide +kernel)) (fun _ _ _ _ _ => (pg_name (i := 4) sc_server_init.nd rfl (Or.inl rfl))) (fun _ _ _ _ _ => pts_nil) (fun _ _ _ _ _ => (pv 4)) (fun _ _ _ _ _ => (pe_dget hu (pe_dget hu (pv 2) (pv 5) (fun _ _ => rfl)) (pv 4) (fun _ _ => rfl)))))) rfl)
      (pss_one (ps_fld (pv 0) (pv 3) rfl))))))), ?_⟩
    have hl := hT.len
    have b12 := okT.n12
    have b4 := ok.n4
    refine ⟨_, rfl, b, B, rfl, hB, fun H1 e1 => ?_⟩
    refine ⟨_, rfl, _, rfl, b, B, t, tk, TT, rfl, hB.kr (.of_ex e1), ok, e1 _ _ ht, hT.kr (.of_ex e1), okT, fun H2 e2 => ?_⟩
    have e12 := e1.trans e2
    refine ⟨_, rfl, _, rfl, _, rfl, t, tk, st, rfl, .inl (e12 _ _ ht), fun H3 e3 => ?_⟩
    refine ⟨_, rfl, ?_⟩
    have e13 := e12.trans e3
    refine iteNBT (hT.isSome hst) ?_
    refine ⟨_, rfl, _, rfl, x, CS, dx, [], rfl, e13 _ _ hx, T.clS, T.nSb, (by show 0 < 1000; decide), ?_⟩
    rw [putF1]
    have htx : t ≠ x := fun z => by rw [z, hx] at ht; cases ht
    have hx3 := e13 _ _ hx
    have d3 : Kd K H (upd H3 x (.ins CS dx [(("own_book" : Str), .ref b)])) := (Kd.of_ex e13).trans (Kd.ins hx3)
    have hx4 : (upd H3 x (.ins CS dx [(("own_book" : Str), .ref b)])) x = some (.ins CS dx [(("own_book" : Str), .ref b)]) := upd_same
    have kp4 : ∀ a o, a ≠ x → H a = some o → (upd H3 x (.ins CS dx [(("own_book" : Str), .ref b)])) a = some o := fun a o n h => by
      rw [upd_ne n]; exact e13 _ _ h
    generalize upd H3 x (.ins CS dx [(("own_book" : Str), .ref b)]) = H4 at d3 hx4 kp4 ⊢
    have ht4 := kp4 _ _ htx ht
    have hT4 := hT.kd d3
    obtain ⟨ss, en, pn⟩ := hT.ks
    have ssl : ss.length = TT.length := by
      have := pn.length_eq
      simpa using this
    refine ⟨_, rfl, t, tk, rfl, .inl ht4, fun l hl => ?_⟩
    have x5 := Ex.new (o := .lst (tk.map fun kv => kV kv.1)) hl
    refine ⟨l, ss, rfl, SqL.of (by rw [← kv_strs en]; exact upd_same), by omega, fun ys q perm _ hq => ?_⟩
    have x6 := x5.trans (Ex.new (o := .lst (ys.map V.str)) hq)
    have hq6 : (upd (upd H4 l (.lst (tk.map fun kv => kV kv.1))) q (.lst (ys.map V.str))) q = some (.lst (ys.map V.str)) := upd_same
    generalize upd (upd H4 l (.lst (tk.map fun kv => kV kv.1))) q (.lst (ys.map V.str)) = H6 at x6 hq6 ⊢
    have pT : ys.Perm (TT.map (·.1)) := perm.trans pn
    have ynd : ys.Nodup := pT.symm.nodup okT.nd
    have ysl : ys.length = TT.length := by rw [perm.length_eq]; exact ssl
    refine ⟨q, rfl, ⟨_, SqL.of hq6⟩, fun D hD => ?_⟩
    refine dc_it (w := walk_list (xs := ys.map V.str)) (fun i H' => Ex H6 H' ∧ ∃ kvs, H' D = some (.dK kvs) ∧ kvs.map (·.1) = (ys.take i).map Sum.inr ∧ ∀ s ∈ ys.take i, ∃ e kv, e ≠ D ∧ valV kvs (Sum.inr s : Key) = some (.ref e) ∧ Rd H' e (.dK kv) ∧ ∀ y ∈ TT, y.1 = s → EDv K H' kv y.2.1 y.2.2)
      ⟨Ex.new hD, [], upd_same, rfl, fun s hs => by simp at hs⟩ (fun i H' _ p => ex_l p.1 (SqL.of hq6)) (fun i v H8 H7 hi p y => ?_) (fun H7 p => ?_)
    · obtain ⟨rfl, hv⟩ := y
      obtain ⟨x7, kvs, hD7, ek, hval⟩ := p
      rw [List.length_map] at hi
      have hv : v = .str ys[i] := by
        rw [List.getElem?_map, List.getElem?_eq_getElem hi] at hv
        exact (Option.some.inj hv).symm
      subst hv
      have my : ys[i] ∈ TT.map (·.1) := pT.mem_iff.mp (List.getElem_mem hi)
      obtain ⟨y, hy, ey⟩ := List.mem_map.mp my
      have ey : y.1 = ys[i] := ey
      obtain ⟨e, kv, hq1, hr1, hE⟩ := hT4.get y hy
      rw [ey] at hq1
      have x47 := x6.trans x7
      refine ⟨rfl, ?_⟩
      refine tyes ?_
      refine ⟨_, rfl, ?_⟩
      obtain ⟨ns, en2, pn2⟩ := hE.ks
      have nsl : ns.length = B.length + 1 := by
        have := pn2.length_eq
        rw [List.length_append, List.length_map, (okT.en y hy).len] at this
        simpa using this
      refine ⟨_, rfl, _, rfl, t, _, rfl, dgetS (.inl (x47 _ _ ht4)) hq1, e, kv, rfl, ex_rd x47 hr1, fun l2 hl2 => ?_⟩
      refine ⟨l2, ns, rfl, SqL.of (by rw [← kv_strs en2]; exact upd_same), by omega, fun zs q2 perm2 _ hq2 => ?_⟩
      have x8 := (Ex.new (o := .lst (kv.map fun kv => kV kv.1)) hl2).trans (Ex.new (o := .lst (zs.map V.str)) hq2)
      have hq8 : (upd (upd H7 l2 (.lst (kv.map fun kv => kV kv.1))) q2 (.lst (zs.map V.str))) q2 = some (.lst (zs.map V.str)) := upd_same
      generalize upd (upd H7 l2 (.lst (kv.map fun kv => kV kv.1))) q2 (.lst (zs.map V.str)) = H8 at x8 hq8 ⊢
      have znd : zs.Nodup := (perm2.trans pn2).symm.nodup ((okT.en y hy).nd ok)
      have zl : zs.length = B.length + 1 := by rw [perm2.length_eq]; exact nsl
      refine ⟨q2, rfl, ⟨_, SqL.of hq8⟩, fun D2 hD2 => ?_⟩
      refine dc_mapN (w := walk_list (xs := zs.map V.str)) hD2 (by rw [List.length_map]; omega) (fun _ => rfl) (fun H3 e3 => ex_l e3 (SqL.of hq8)) (fun i => Sum.inr (zs.getD i Str.empty)) (fun i => (valV kv (Sum.inr (zs.getD i Str.empty) : Key)).getD .non) (fun i i' h1 h2 e => ?_) (fun j v H9 H10 hj e9 y9 => ?_) (fun H9 e9 hl9 => ?_)
      · rw [List.length_map] at h2
        have e := Sum.inr.inj e
        rw [getD_lt (by omega), getD_lt h2] at e
        exact absurd ((List.getElem_inj znd).mp e) (by omega)
      · obtain ⟨rfl, hv⟩ := y9
        rw [List.length_map] at hj
        have ex0 : v = .str (zs.getD j Str.empty) := by
          rw [List.getElem?_map, List.getElem?_eq_getElem hj] at hv
          rw [getD_lt hj]
          exact (Option.some.inj hv).symm
        subst ex0
        have mz : zs.getD j Str.empty ∈ ns := by
          rw [getD_lt hj]
          exact perm2.mem_iff.mp (List.getElem_mem hj)
        have mk : (Sum.inr (zs.getD j Str.empty) : Key) ∈ kv.map (·.1) := by
          rw [en2]; exact List.mem_map.mpr ⟨_, mz, rfl⟩
        obtain ⟨v, hv⟩ := valV_some mk
        refine ⟨Ex.refl _, fun H5 e5 Q5 q5 => ⟨_, rfl, q5 H5 (Ex.refl _)⟩, fun H5 e5 Q5 q5 => ?_⟩
        have x5 := ((x47.trans x8).trans e9).trans e5
        refine ⟨_, rfl, _, rfl, t, _, rfl, dgetS (.inl (x5 _ _ ht4)) hq1, _, rfl, e, v, rfl, dgetS (ex_rd x5 hr1) hv, ?_⟩
        have : (valV kv (Sum.inr (zs.getD j Str.empty) : Key)).getD .non = v := by rw [hv]; rfl
        rw [← this]
        exact q5 H5 (Ex.refl _)
      · have hD9 := e9 _ _ (x8 _ _ hD7)
        have x79 := x8.trans e9
        refine ⟨kvs, Sum.inr ys[i], rfl, hD9, szlt ?_, ?_⟩
        · have := congrArg List.length ek
          rw [List.length_map, List.length_map, List.length_take] at this
          omega
        have hnone : valV kvs (Sum.inr ys[i] : Key) = none := by
          refine valV_none ?_
          rw [ek]
          intro m
          obtain ⟨s0, hs0, es0⟩ := List.mem_map.mp m
          cases es0
          obtain ⟨j, hj, ej⟩ := List.mem_iff_getElem.mp hs0
          rw [List.getElem_take] at ej
          have := (List.getElem_inj ynd).mp ej
          rw [List.length_take] at hj
          omega
        rw [putK_new _ hnone]
        have D6 : H6 D = none := hD
        have hD2D : D2 ≠ D := fun z => by
          rw [z] at hD2
          have := x8 _ _ hD7
          rw [hD2] at this
          cases this
        have kdD : ∀ a kv0, a ≠ D → Rd H9 a (.dK kv0) → Rd (upd H9 D (.dK (kvs ++ [(Sum.inr ys[i], V.ref D2)]))) a (.dK kv0) := fun a kv0 n h => by
          rcases h with h | ⟨ob, h⟩
          · exact .inl (by rw [upd_ne n]; exact h)
          · exact .inr ⟨ob, by rw [upd_ne n]; exact h⟩
        have ktD : Kt K H9 (upd H9 D (.dK (kvs ++ [(Sum.inr ys[i], V.ref D2)]))) := Kt.upd hD9 (fun _ z => by cases z) (fun _ _ z => by cases z)
        have edD : ∀ kv0 es kp, EDv K H9 kv0 es kp → EDv K (upd H9 D (.dK (kvs ++ [(Sum.inr ys[i], V.ref D2)]))) kv0 es kp := fun kv0 es kp h =>
          ⟨h.ks, fun e he => let ⟨v, q, p, e1, e2⟩ := h.get e he; ⟨v, q, p, e1, ktD _ _ e2⟩, h.kept⟩
        refine ⟨Ex.mut (x7.trans x79) D6, _, upd_same, ?_, fun s hs => ?_⟩
        · rw [List.map_append, ek, List.take_add_one, List.map_append, List.getElem?_eq_getElem hi]
          rfl
        · rw [List.take_add_one, List.getElem?_eq_getElem hi] at hs
          rcases List.mem_append.mp hs with hs | hs
          · obtain ⟨e0, kv0, he0, hq0, hr0, hE0⟩ := hval s hs
            refine ⟨e0, kv0, he0, valV_left hq0, kdD _ _ he0 (ex_rd x79 hr0), fun y' hy' ey' => edD _ _ _ ((hE0 y' hy' ey').kr (.of_ex x79))⟩
          · have hs : s = ys[i] := by simpa using hs
            subst hs
            refine ⟨D2, copyK zs kv, hD2D, valV_right hnone, kdD _ _ hD2D (.inl hl9), fun y' hy' ey' => edD _ _ _ ?_⟩
            obtain ⟨e', kv', hq', hr', hE'⟩ := hT4.get y' hy'
            rw [ey', hq1] at hq'
            cases hq'
            have : kv' = kv := rd_inj hr' hr1
            subst this
            exact (hE'.kr (.of_ex (x47.trans x79))).copy en2 perm2 znd
    · obtain ⟨x7, kvs, hD7, ek, hval⟩ := p
      have x47 := x6.trans x7
      have hx7 := x47 _ _ hx4
      rw [List.length_map, List.take_length] at ek hval
      refine ⟨_, rfl, x, CS, dx, _, rfl, hx7, T.clS, T.nSt, (by show 1 < 1000; decide), ?_⟩
      rw [putF2]
      refine ⟨_, rfl, _, rfl, x, CS, dx, _, rfl, upd_same, T.clS, T.nSs, (by show 2 < 1000; decide), ?_⟩
      rw [putF3, upd_upd]
      have d7 : Kd K H7 (upd H7 x (.ins CS dx [(("own_book" : Str), .ref b), (("own_table" : Str), .ref D), (("own_start" : Str), .str st)])) := Kd.ins hx7
      refine k _ (fun a o n h => by rw [upd_ne n]; exact x47 _ _ (kp4 a o n h)) ⟨dx, b, D, kvs, upd_same, ?_, d7.dic _ _ (.inl hD7), ⟨⟨ys, ek, pT⟩, fun y hy => ?_⟩, hst⟩
      · obtain ⟨bx, pd, hb, pk, hr, hp⟩ := hB
        exact ⟨bx, pd, by rw [upd_ne hbx]; exact x47 _ _ (kp4 _ _ hbx hb), pk, d7.dic _ _ (ex_rd x47 (d3.dic _ _ hr)), hp.kt (fun a xs h => d7.tup _ _ (ex_t x47 (d3.tup _ _ h)))⟩
      · obtain ⟨e0, kv0, _, hq0, hr0, hE0⟩ := hval y.1 (pT.mem_iff.mpr (List.mem_map.mpr ⟨y, hy, rfl⟩))
        exact ⟨e0, kv0, hq0, d7.dic _ _ hr0, (hE0 y hy rfl).kd d7⟩
end Sk
namespace Sk
open PySem L2 KwX Evl RZ
/-! ### entries of works -/
inductive En where
  | kept
  | cmd (c : Str) (org : List V) (out : Str)
def sOk : V → Bool
  | .str s => PyData.strOk s
  | _ => true
def EnV (K : PySem.W.Frag) (H : Hp) (v : V) : En → Prop
  | .kept => ∃ q, v = .ref q ∧ SqT K H q [.str "kept"]
  | .cmd c org out => ∃ q a, v = .ref q ∧ SqT K H q [.str c, .ref a, .str out] ∧ SqT K H a org ∧ (∀ x ∈ org, okV x ∧ sOk x = true) ∧ org.length ≤ 1000 ∧ PyData.strOk c = true ∧ PyData.strOk out = true
theorem EnV.kt {K : PySem.W.Frag} {H H' : Hp} {v : V} {e : En} (k : Kt K H H') (h : EnV K H v e) : EnV K H' v e := by
  cases e with
  | kept => obtain ⟨q, e1, h1⟩ := h; exact ⟨q, e1, k _ _ h1⟩
  | cmd c org out => obtain ⟨q, a, e1, h1, h2, h3⟩ := h; exact ⟨q, a, e1, k _ _ h1, k _ _ h2, h3⟩
theorem Kr.kt {K : PySem.W.Frag} {H H' : Hp} (k : Kr H H') : Kt K H H' := fun _ _ h => k.tup h
theorem Kt.of_ex {K : PySem.W.Frag} {H H' : Hp} (e : Ex H H') : Kt K H H' := fun _ _ h => ex_t e h
theorem Kt.trans {K : PySem.W.Frag} {H H1 H2 : Hp} (a : Kt K H H1) (b : Kt K H1 H2) : Kt K H H2 := fun x xs h => b x xs (a x xs h)
/-- the entries at vs -/
structure EnsV (K : PySem.W.Frag) (H : Hp) (vs : List V) (es : List En) : Prop where
  len : vs.length = es.length
  at_ : ∀ (i : Nat) (v : V) (e : En), vs[i]? = some v → es[i]? = some e → EnV K H v e
theorem EnsV.kt {K : PySem.W.Frag} {H H' : Hp} {vs : List V} {es : List En} (k : Kt K H H') (h : EnsV K H vs es) : EnsV K H' vs es := ⟨h.len, fun i v e a b => (h.at_ i v e a b).kt k⟩
def WorkAt (K : PySem.W.Frag) (H : Hp) (p : Addr) (es : List En) : Prop := ∃ vs, SqT K H p vs ∧ EnsV K H vs es ∧ es.length ≤ 500
theorem WorkAt.kt {K : PySem.W.Frag} {H H' : Hp} {p : Addr} {es : List En} (k : Kt K H H') (h : WorkAt K H p es) : WorkAt K H' p es := let ⟨vs, h1, h2, h3⟩ := h; ⟨vs, k _ _ h1, h2.kt k, h3⟩
def okOne (done : List Int) : V → Bool
  | .non => true
  | .str s => isNm s
  | .int n => decide (n ∈ done)
  | _ => false
def okE (B : Bk) (done : List Int) (c : Str) (org : List V) (out : Str) : Bool :=
  match B.find? (fun x => decide (x.1 = c)) with
  | none => false
  | some b => decide (org.length = b.2.1) && (org.all (okOne done) && decide (out ∈ ("failed" : Str) :: b.2.2))
def isW (B : Bk) : List En → List Int → Int → Bool → Bool
  | [], _, _, _ => true
  | .kept :: r, done, tried, op => op && isW B r done tried false
  | .cmd c org out :: r, done, tried, op => okE B done c org out && isW B r (if out ≠ "failed" then done ++ [tried] else done) (tried + 1) (decide (out ≠ "failed"))
def doneK (done : List Int) : List (Key × V) := done.map fun n => ((Sum.inl n : Key), V.bl true)
theorem doneK_get (done : List Int) (n : Int) : (valV (doneK done) (Sum.inl n : Key)).isSome = decide (n ∈ done) := by
  by_cases h : n ∈ done
  · have m : (Sum.inl n : Key) ∈ (doneK done).map (·.1) := by
      unfold doneK
      rw [List.map_map]
      exact List.mem_map.mpr ⟨n, h, rfl⟩
    obtain ⟨v, hv⟩ := valV_some m
    rw [hv, decide_eq_true h]
    rfl
  · rw [decide_eq_false h, valV_none]
    · rfl
    · unfold doneK
      rw [List.map_map]
      intro m
      obtain ⟨x, hx, ex⟩ := List.mem_map.mp m
      cases ex
      exact h hx
theorem find_no {α : Type} {l : List (Str × α)} {s : Str} (h : s ∉ l.map (·.1)) : l.find? (fun x => decide (x.1 = s)) = none := by
  rw [List.find?_eq_none]
  intro x hx
  simp only [decide_eq_true_eq]
  exact fun e => h (List.mem_map.mpr ⟨x, hx, e⟩)
def sp_is_entry_line (K : PySem.W.Frag) (CB : Addr) : Sp := fun vs H Q _ => ∃ (b : Addr) (B : Bk) (v : V) (d : Addr) (done : List Int) (c : Str) (org : List V) (out : Str), vs = [.ref b, v, .ref d] ∧ BookAt K CB H b B ∧ BkOk B ∧ Rd H d (.dK (doneK done)) ∧ EnV K H v (.cmd c org out) ∧
  ∀ H', Ex H H' → Q (.bl (okE B done c org out)) H'
abbrev N_is_entry_line : List Str := ["book", "value", "numbers", "one"]
theorem sc_is_entry_line : FnScope N_is_entry_line ["book", "value", "numbers"] (defScope (topS 29)) := ⟨rfl, rfl, rfl, by decide +kernel, rfl, by decide +kernel, by decide +kernel⟩
theorem ok_is_entry_line {P : Program} {w : World} {K : PySem.W.Frag} {mg : Str → Option Value} {base : Heap} {CB CS CI : Addr} (T : Txt K mg CB CS CI) : Cl P w K mg base CX0 4 "is_entry_line" ["book", "value", "numbers"] (sp_is_entry_line K CB) := T.f_is_entry_line.cl fun f fd F => by
  refine F.ok sc_is_entry_line (fun vs H Q E h => ?_) (fun cdv A outer s H vs Q E hr h => ?_)
  · obtain ⟨b, B, v, d, done, c, org, out, rfl, _⟩ := h
    rfl
  · obtain ⟨b, B, v, d, done, c, org, out, rfl, hB, ok, hd, ⟨p, a, rfl, hp, ha, okv, l1000, _⟩, k⟩ := h
    have hu := hu_of hr
    refine ⟨_, (pss_cons (ps_if (PW.pt (pw_or (pt_not (pt_val (pe_callB call_isi (by rfl) T.zisi bt_isi (pa_cons (pv 1) (pa_cons (pty T.ztuple bt_tuple) pa_nil))))) (pw_or (pt_cmpR op_ne (pe_callB call_len_seq (by rfl) T.zlen bt_len (pa_cons (pv 1) pa_nil)) pe_int (nomark _)) (pw_or1 (pt_not (pt_val (pc0 (ok_is_command T) hr (pa_cons (pv 0) (pa_cons (pe_ix ix_tup (pv 1) pe_int (fun _ _ => rfl)) pa_nil))))))))) (pss_one (ps_ret pe_bl)) pss_nil)
      (pss_cons (ps_if (PW.pt (pw_or (pt_not (pt_val (pe_callB call_isi (by rfl) T.zisi bt_isi (pa_cons (pe_ix ix_tup (pv 1) pe_int (fun _ _ => rfl)) (pa_cons (pty T.ztuple bt_tuple) pa_nil))))) (pw_or1 (pt_cmpR op_ne (pe_callB call_len_seq (by rfl) T.zlen bt_len (pa_cons (pe_ix ix_tup (pv 1) pe_int (fun _ _ => rfl)) pa_nil)) (pe_ix ix_tup (pe_dget hu (pe_fld (pv 0) rfl) (pe_ix ix_tup (pv 1) pe_int (fun _ _ => rfl)) (fun _ _ => rfl)) pe_int (fun _ _ => rfl)) (nomark _))))) (pss_one (ps_ret pe_bl)) pss_nil)
      (pss_cons (ps_if (pt_not (pt_val (pe_callB (cr_all rfl) (by rfl) T.zall bt_all (pa_cons (pe_lc (own := [("one", 3)]) (g := gName 3) (tt := tYes) rfl sc_is_entry_line.nd (pi_tup (pe_ix ix_tup (pv 1) pe_int (fun _ _ => rfl))) (blkOk_by (N := N_is_entry_line) (sc := defScope (topS 29)) (by decide +kernel)) (fun _ _ _ _ _ => (pg_name (i := 3) sc_is_entry_line.nd rfl (Or.inl rfl))) (fun _ _ _ _ _ => pts_nil) (fun _ _ _ _ _ => (pe_or (pe_cmpR op_isN (pv 3) pe_non (nomark _)) (pe_or (pc0 (ok_is_name T) hr (pa_cons (pv 3) pa_nil)) (pe_one (pe_and (pc0 (ok_is_integer T) hr (pa_cons (pv 3) pa_nil)) (pe_one (pe_cmp (pc_din hu (pv 3) (pv 2)) rfl)))))))) pa_nil)))) (pss_one (ps_ret pe_bl)) pss_nil)
      (pss_one (ps_ret (pe_and (pe_callB call_isi (by rfl) T.zisi bt_isi (pa_cons (pe_ix ix_tup (pv 1) pe_int (fun _ _ => rfl)) (pa_cons (pty T.zstr bt_str) pa_nil))) (pe_one (pe_cmpR op_in_seq (pe_ix ix_tup (pv 1) pe_int (fun _ _ => rfl)) (pc0 (ok_outcomes_in T) hr (pa_cons (pv 0) (pa_cons (pe_ix ix_tup (pv 1) pe_int (fun _ _ => rfl)) pa_nil))) (by rfl))))))))), ?_⟩
    refine ⟨_, rfl, _, _, _, _, _, rfl, .ty _, tyx_tup hp, kit_ty kb_tt, _, rfl, ?_⟩
    refine ⟨_, rfl, p, _, rfl, .inr hp, rfl, _, rfl, ?_⟩
    refine ⟨_, rfl, _, rfl, p, _, (0 : Int), _, rfl, rfl, hp, rfl, b, B, c, rfl, hB, fun H1 e1 => ?_⟩
    refine ⟨_, rfl, ?_⟩
    by_cases hc : c ∈ B.map (·.1)
    case neg =>
      refine iteNF hc ?_
      have e : okE B done c org out = false := by unfold okE; rw [find_no hc]
      rw [e] at k
      exact k H1 e1
    refine iteNT hc ?_
    obtain ⟨pr, hf, hm, rfl⟩ := find_at hc
    have eo : okE B done pr.1 org out = (decide (org.length = pr.2.1) && (org.all (okOne done) && decide (out ∈ ("failed" : Str) :: pr.2.2))) := by unfold okE; rw [hf]
    have hp1 := ex_t e1 hp
    have ha1 := ex_t e1 ha
    have hB1 := hB.kr (.of_ex e1)
    obtain ⟨dx, pd, hb, pk, hr1, hP⟩ := id hB1
    obtain ⟨pv, hv, pp, pa, rfl, hpp, hpa⟩ := hP.get pr hm
    refine ⟨_, rfl, p, _, (1 : Int), _, rfl, rfl, hp1, rfl, _, _, _, _, _, rfl, .ty _, tyx_tup ha1, kit_ty kb_tt, _, rfl, ?_⟩
    refine ⟨_, rfl, p, _, (1 : Int), _, rfl, rfl, hp1, rfl, a, _, rfl, .inr ha1, _, rfl, b, CB, dx, _, _, rfl, hb, T.clB, T.nB, lk_own pd, _, rfl, p, _, (0 : Int), _, rfl, rfl, hp1, rfl, pd, _, rfl, dgetS hr1 hv, pp, _, (0 : Int), _, rfl, rfl, hpp, rfl, rfl, _, rfl, ?_⟩
    by_cases hl : org.length = pr.2.1
    case neg =>
      refine iteNF (fun z => hl ?_) ?_
      · have := V.int.inj z
        omega
      · have e : okE B done pr.1 org out = false := by rw [eo, decide_eq_false hl]; rfl
        rw [e] at k
        exact k H1 e1
    refine iteNT (by rw [hl]) ?_
    have hd1 := ex_rd e1 hd
    refine ⟨_, rfl, p, _, (1 : Int), _, rfl, rfl, hp1, rfl, a, rfl, ⟨_, ha1⟩, fun D hD => ?_⟩
    refine lc_mapN (w := walk_tup (xs := org)) hD l1000 (fun _ => rfl) (fun H2 e2 => ex_t e2 ha1) (fun i => .bl (okOne done (org.getD i .non))) (fun i x H2 H3 hi e2 y => ?_) (fun H2 e2 hl2 => ?_)
    · obtain ⟨rfl, hx⟩ := y
      have ex0 : org.getD i .non = x := by
        rw [getD_lt hi]
        rw [List.getElem?_eq_getElem hi] at hx
        exact Option.some.inj hx
      have okx := (okv x (List.mem_of_getElem? hx)).1
      rw [ex0]
      refine ⟨Ex.refl _, fun H4 e4 Q4 q4 => ?_⟩
      refine ⟨_, rfl, rfl, _, rfl, ?_⟩
      cases x with
      | non => exact q4 H4 (Ex.refl _)
      | int n =>
        refine ⟨_, rfl, .int n, rfl, trivial, fun H5 e5 => ⟨_, rfl, ?_⟩⟩
        refine iteBF rfl ?_
        refine ⟨_, rfl, .int n, rfl, trivial, fun H6 e6 => ⟨_, rfl, ?_⟩⟩
        refine iteBT rfl ?_
        refine ⟨_, rfl, _, rfl, d, _, rfl, dgetI (ex_rd (((e2.trans e4).trans e5).trans e6) hd1) rfl, ?_⟩
        rw [doneK_get]
        exact q4 H6 (e5.trans e6)
      | str s1 =>
        refine ⟨_, rfl, .str s1, rfl, okx, fun H5 e5 => ⟨_, rfl, ?_⟩⟩
        refine iteB (fun hn => ?_) (fun hn => ?_)
        · have : okOne done (.str s1) = true := hn
          rw [this] at q4
          exact q4 H5 e5
        · refine ⟨_, rfl, .str s1, rfl, okx, fun H6 e6 => ⟨_, rfl, ?_⟩⟩
          refine iteBF rfl ?_
          have : okOne done (.str s1) = false := hn
          rw [this] at q4
          exact q4 H6 (e5.trans e6)
      | _ => exact okx.elim
    · have e12 := e1.trans e2
      refine ⟨D, (List.range org.length).map fun i => okOne done (org.getD i .non), rfl, SqL.of (by rw [hl2, List.map_map]; rfl), _, rfl, ?_⟩
      rw [all_range org .non (okOne done) rfl]
      refine iteNB (fun hn => ?_) (fun hn => ?_)
      · have e : okE B done pr.1 org out = false := by rw [eo, hn, Bool.false_and, Bool.and_false]
        rw [e] at k
        exact k H2 e12
      · have hp2 := ex_t e2 hp1
        refine ⟨_, rfl, p, _, (2 : Int), _, rfl, rfl, hp2, rfl, _, _, _, _, _, rfl, .ty _, .base (.str out), kit_ty kb_ss, _, rfl, ?_⟩
        refine ⟨_, rfl, p, _, (2 : Int), _, rfl, rfl, hp2, rfl, _, rfl, _, rfl, p, _, (0 : Int), _, rfl, rfl, hp2, rfl, b, B, pr.1, pr.2.1, pr.2.2, rfl, hB1.kr (.of_ex e2), ok, hm, fun H3 q zs e3 hq hq1 pm => ?_⟩
        refine ⟨q, _, rfl, .inr (SqT.of hq1), rfl, flat_strs _, ?_⟩
        rw [inV_str]
        have e : okE B done pr.1 org out = (decide (out ∈ zs)) := by
          rw [eo, hn, decide_eq_true hl, Bool.true_and, Bool.true_and]
          exact decide_eq_decide.mpr pm.mem_iff.symm
        rw [e] at k
        exact k H3 (e12.trans e3)
end Sk
namespace Sk
open PySem L2 KwX Evl RZ
/-! ### entries as data -/
def dV : V → PyData
  | .str s => .str s
  | .int n => .int n
  | _ => .none
def dE : En → PyData
  | .kept => .tuple [.str "kept"]
  | .cmd c org out => .tuple [.str c, .tuple (org.map dV), .str out]
theorem dpV {K : PySem.W.Frag} {H : Hp} {v : V} (h : okV v) : Dp K H v (dV v) := by
  cases v with
  | str s => exact .str s
  | int n => exact .int n
  | non => exact .non
  | _ => exact h.elim
theorem dpAllV {K : PySem.W.Frag} {H : Hp} : ∀ {vs : List V}, (∀ v ∈ vs, okV v ∧ sOk v = true) → DpAll K H vs (vs.map dV)
  | [], _ => .nil
  | v :: r, h => .cons (dpV (h v (List.mem_cons_self ..)).1) (dpAllV fun x hx => h x (List.mem_cons_of_mem _ hx))
theorem dpE {K : PySem.W.Frag} {H : Hp} {v : V} {e : En} (h : EnV K H v e) : Dp K H v (dE e) := by
  cases e with
  | kept => obtain ⟨q, rfl, h1⟩ := h; exact .tup h1 (.cons (.str _) .nil)
  | cmd c org out => obtain ⟨q, a, rfl, h1, h2, h3, _⟩ := h; exact .tup h1 (.cons (.str _) (.cons (.tup h2 (dpAllV h3)) (.cons (.str _) .nil)))
theorem canV {v : V} (h : okV v ∧ sOk v = true) : (dV v).canLay0 = true := by
  cases v with
  | str s => simp only [dV, PyData.canLay0]; exact h.2
  | int n => simp only [dV, PyData.canLay0]
  | non => simp only [dV, PyData.canLay0]
  | _ => exact h.1.elim
theorem canAllV : ∀ {vs : List V}, (∀ v ∈ vs, okV v ∧ sOk v = true) → PyData.canLayAll0 (vs.map dV) = true
  | [], _ => by simp only [List.map_nil, PyData.canLayAll0]
  | v :: r, h => by
    simp only [List.map_cons, PyData.canLayAll0, Bool.and_eq_true]
    exact ⟨canV (h v (List.mem_cons_self ..)), canAllV fun x hx => h x (List.mem_cons_of_mem _ hx)⟩
theorem depV (v : V) : (dV v).depth = 0 := by cases v <;> simp only [dV, PyData.depth]
theorem depAllV : ∀ vs : List V, PyData.depthAll (vs.map dV) = 0
  | [] => by simp only [List.map_nil, PyData.depthAll]
  | v :: r => by simp only [List.map_cons, PyData.depthAll, depV, depAllV r, Nat.max_self]
theorem keptOk : PyData.strOk "kept" = true := by decide +kernel
theorem canE {K : PySem.W.Frag} {H : Hp} {v : V} {e : En} (h : EnV K H v e) : (dE e).canLay0 = true := by
  cases e with
  | kept => simp only [dE, PyData.canLay0, PyData.canLayAll0, Bool.and_true]; exact keptOk
  | cmd c org out =>
    obtain ⟨q, a, rfl, h1, h2, h3, _, h4, h5⟩ := h
    simp only [dE, PyData.canLay0, PyData.canLayAll0, Bool.and_true, Bool.and_eq_true]
    exact ⟨h4, canAllV h3, h5⟩
theorem depE (e : En) : (dE e).depth ≤ 2 := by
  cases e with
  | kept => simp [dE, PyData.depth, PyData.depthAll]
  | cmd c org out => simp [dE, PyData.depth, PyData.depthAll, depAllV]
theorem shapE {K : PySem.W.Frag} {H : Hp} {v : V} {e : En} (h : EnV K H v e) : SeqAt.shaped (dE e) = true := by
  unfold SeqAt.shaped
  rw [canE h, Bool.true_and]
  exact decide_eq_true (Nat.le_trans (depE e) (by decide))
theorem shapK : SeqAt.shaped (.tuple [.str "kept"]) = true := by decide +kernel
def isKept : En → Bool
  | .kept => true
  | _ => false
theorem eqv_kept (e : En) : PyData.eqv (dE e) (.tuple [.str "kept"]) = isKept e := by
  cases e with
  | kept => simp [dE, PyData.eqv, PyData.eqvAll, isKept]
  | cmd c org out => simp [dE, PyData.eqv, PyData.eqvAll, isKept]
def sp_is_work (K : PySem.W.Frag) (CB : Addr) : Sp := fun vs H Q _ => ∃ (b : Addr) (B : Bk) (p : Addr) (es : List En), vs = [.ref b, .ref p] ∧ BookAt K CB H b B ∧ BkOk B ∧ WorkAt K H p es ∧
  ∀ H', Ex H H' → Q (.bl (isW B es [] 0 false)) H'
abbrev N_is_work : List Str := ["book", "value", "numbers", "tried", "is_done", "entry"]
theorem sc_is_work : FnScope N_is_work ["book", "value"] (defScope (topS 31)) := ⟨rfl, rfl, rfl, by decide +kernel, rfl, by decide +kernel, by decide +kernel⟩
theorem ok_is_work {P : Program} {w : World} {K : PySem.W.Frag} {mg : Str → Option Value} {base : Heap} {CB CS CI : Addr} (T : Txt K mg CB CS CI) : Cl P w K mg base CX0 5 "is_work" ["book", "value"] (sp_is_work K CB) := T.f_is_work.cl fun f fd F => by
  refine F.ok sc_is_work (fun vs H Q E h => ?_) (fun cdv A outer s H vs Q E hr h => ?_)
  · obtain ⟨b, B, p, es, rfl, _⟩ := h
    rfl
  · obtain ⟨b, B, p, es, rfl, hB, ok, ⟨vs, hp, hes, hl⟩, k⟩ := h
    have hu := hu_of hr
    obtain ⟨a_KEPT_ENTRY, h_KEPT_ENTRY, s_KEPT_ENTRY⟩ := T.cKeptE
    obtain ⟨t_FAILED, h_FAILED⟩ := T.cFailed
    refine ⟨_, (pss_cons (ps_expr (pc0 (ok_require_book T) hr (pa_cons (pv 0) pa_nil)))
      (pss_cons (ps_if (pt_not (pt_val (pe_callB call_isi (by rfl) T.zisi bt_isi (pa_cons (pv 1) (pa_cons (pty T.ztuple bt_tuple) pa_nil))))) (pss_one (ps_ret pe_bl)) pss_nil)
      (pss_cons (ps_par3 (i := 2) (j := 3) (l := 4) (by rfl) sc_is_work.nd rfl rfl rfl (by decide) (by decide) (by decide) rfl rfl rfl (pa_cons pe_dnewK (pa_cons pe_int (pa_cons pe_bl pa_nil))) (by rfl))
      (pss_cons (ps_for PassesOwn.never rfl (pi_tup (pv 1)) (pg_name (i := 5) sc_is_work.nd rfl (Or.inl rfl))
      (pss_one (ps_if (PW.pt (pw_and (pt_val (pe_callB call_isi (by rfl) T.zisi bt_isi (pa_cons (pv 5) (pa_cons (pty T.ztuple bt_tuple) pa_nil)))) (pw_and1 (pt_cmpR (op_eqD hr.units) (pv 5) (pgR h_KEPT_ENTRY) (nomark _))))) (pss_cons (ps_if (pt_not (pt_val (pv 4))) (pss_one (ps_ret pe_bl)) pss_nil)
      (pss_one (ps_set (i := 4) sc_is_work.nd rfl (Or.inl rfl) pe_bl))) (pss_one (ps_if (pt_val (pc0 (ok_is_entry_line T) hr (pa_cons (pv 0) (pa_cons (pv 5) (pa_cons (pv 2) pa_nil))))) (pss_cons (ps_set (i := 4) sc_is_work.nd rfl (Or.inl rfl) (pe_cmpR op_ne (pe_ix ix_tup (pv 5) pe_int (fun _ _ => rfl)) (pgS h_FAILED) (nomark _)))
      (pss_cons (ps_if (pt_val (pv 4)) (pss_one (ps_dput hu (pv 2) (pv 3) pe_bl rfl)) pss_nil)
      (pss_one (ps_aug (i := 3) sc_is_work.nd rfl (Or.inl rfl) pe_int ip_add)))) (pss_one (ps_ret pe_bl)))))))
      (pss_one (ps_ret pe_bl)))))), ?_⟩
    have vl := hes.len
    refine ⟨_, rfl, b, B, rfl, hB, fun H1 e1 => ?_⟩
    refine ⟨_, rfl, _, _, _, _, _, rfl, .ty _, tyx_tup (ex_t e1 hp), kit_ty kb_tt, _, rfl, ?_⟩
    refine fun d hd => ⟨_, _, _, rfl, ?_⟩
    have x2 := e1.trans (Ex.new (o := .dK []) hd)
    have hp2 := ex_t x2 hp
    have hd0 : H d = none := fresh_back e1 hd
    refine ⟨_, rfl, p, rfl, ⟨_, hp2⟩, ?_⟩
    refine for_it (w := walk_tup (xs := vs)) (fun i σ H' => ∃ (done : List Int) (tried : Int) (op : Bool) (e0 : Option V), σ = [some (.ref b), some (.ref p), some (.ref d), some (.int tried), some (.bl op), e0] ∧ isW B (es.drop i) done tried op = isW B es [] 0 false ∧
        Ex H H' ∧ H' d = some (.dK (doneK done)) ∧ (∀ n ∈ done, n < tried) ∧ done.length ≤ i)
      ⟨[], 0, false, none, rfl, rfl, x2, upd_same, (fun _ h => nomatch h), Nat.zero_le _⟩ (fun i σ H' _ p => ?_) (fun i x σ H3 H2 hi p y => ?_) (fun σ H' p => ?_)
    · obtain ⟨_, _, _, _, _, _, e, _⟩ := p
      exact ex_t e hp
    · obtain ⟨rfl, hx⟩ := y
      obtain ⟨done, tried, op, e0, rfl, eq, e, hd2, lt, dl⟩ := p
      have hi' : i < es.length := by omega
      have hE := (hes.at_ i x es[i] hx (List.getElem?_eq_getElem hi')).kt (Kt.of_ex e)
      have hdr : es.drop i = es[i] :: es.drop (i + 1) := List.drop_eq_getElem_cons hi'
      rw [hdr] at eq
      generalize es[i] = en at hE eq
      obtain ⟨q, rfl, htup⟩ : ∃ q, x = .ref q ∧ ∃ xs, SqT K H2 q xs := by
        cases en with
        | kept => obtain ⟨q, rfl, h1⟩ := hE; exact ⟨q, rfl, _, h1⟩
        | cmd c org out => obtain ⟨q, a, rfl, h1, _⟩ := hE; exact ⟨q, rfl, _, h1⟩
      obtain ⟨xs0, htup⟩ := htup
      refine ⟨_, rfl, _, _, _, _, _, rfl, .ty _, tyx_tup htup, kit_ty kb_tt, _, rfl, ?_⟩
      refine ⟨_, rfl, dE en, .tuple [.str "kept"], dpE hE, .tup (s_KEPT_ENTRY _) (.cons (.str _) .nil), shapE hE, shapK, _, rfl, ?_⟩
      rw [eqv_kept]
      cases en with
      | kept =>
        refine iteBT rfl ?_
        refine ⟨_, rfl, _, rfl, ?_⟩
        cases op with
        | false =>
          have : isW B es [] 0 false = false := by rw [← eq]; rfl
          rw [this] at k
          exact k _ e
        | true =>
          refine ⟨done, tried, false, _, rfl, ?_, e, hd2, lt, Nat.le_succ_of_le dl⟩
          rw [← eq]; rfl
      | cmd c org out =>
        refine iteBF rfl ?_
        refine ⟨_, rfl, _, rfl, _, rfl, b, B, _, d, done, c, org, out, rfl, hB.kr (.of_ex e), ok, .inl hd2, hE, fun H4 e4 => ?_⟩
        refine ⟨_, rfl, ?_⟩
        obtain ⟨q', a, eq', h1, h2⟩ := id hE
        cases eq'
        refine iteB (fun hok => ?_) (fun hok => ?_)
        · have h14 := ex_t e4 h1
          refine ⟨_, rfl, q, _, (2 : Int), _, rfl, rfl, h14, rfl, rfl, ?_⟩
          have hd4 := e4 _ _ hd2
          have e24 := e.trans e4
          refine ⟨_, rfl, _, rfl, ?_⟩
          have tn : tried ∉ done := fun m => Int.lt_irrefl _ (lt _ m)
          have eq1 : isW B (es.drop (i + 1)) (if out ≠ "failed" then done ++ [tried] else done) (tried + 1) (decide (out ≠ "failed")) = isW B es [] 0 false := by
            rw [← eq]
            show _ = (okE B done c org out && isW B (es.drop (i + 1)) _ _ _)
            rw [hok, Bool.true_and]
          by_cases ho : out = "failed"
          · refine iteNT (by rw [ho]) ?_
            refine ⟨_, rfl, _, _, rfl, rfl, ?_⟩
            have ho' : (!decide (V.str out = V.str "failed")) = false := by rw [ho]; simp
            refine ⟨done, tried + 1, (!decide (V.str out = V.str "failed")), some (.ref q), rfl, ?_, e24, hd4, fun n m => by have := lt n m; omega, Nat.le_succ_of_le dl⟩
            rw [if_neg (by simp [ho]), show decide (out ≠ "failed") = false by simp [ho]] at eq1
            rw [ho']
            exact eq1
          · have ho2 : V.str out ≠ V.str "failed" := fun z => ho (V.str.inj z)
            refine iteNF ho2 ?_
            have ho' : (!decide (V.str out = V.str "failed")) = true := by simp [ho2]
            refine ⟨_, rfl, _, rfl, d, _, rfl, .inl ⟨doneK done, (Sum.inl tried : Key), hd4, rfl, szlt (by unfold doneK; rw [List.length_map]; omega), rfl⟩, ?_⟩
            refine ⟨_, rfl, _, _, rfl, rfl, ?_⟩
            refine ⟨done ++ [tried], tried + 1, (!decide (V.str out = V.str "failed")), some (.ref q), rfl, ?_, Ex.mut e24 hd0, ?_, fun n m => ?_, ?_⟩
            · rw [if_pos ho, show decide (out ≠ "failed") = true by simp [ho]] at eq1
              rw [ho']
              exact eq1
            · rw [upd_same, putK_new]
              · unfold doneK; rw [List.map_append]; rfl
              · have := doneK_get done tried
                rw [decide_eq_false tn] at this
                exact Option.isSome_eq_false_iff.mp this |> Option.isNone_iff_eq_none.mp
            · rcases List.mem_append.mp m with m | m
              · have := lt n m; omega
              · have := List.mem_singleton.mp m; omega
            · rw [List.length_append]; simp; omega
        · have : isW B es [] 0 false = false := by rw [← eq]; show (okE B done c org out && _) = false; rw [hok]; rfl
          rw [this] at k
          exact k _ (e.trans e4)
    · obtain ⟨done, tried, op, e0, rfl, eq, e, _⟩ := p
      rw [vl, List.drop_length] at eq
      rw [← eq] at k
      exact k _ e
end Sk
namespace Sk
open PySem L2 KwX Evl RZ
/-! ### the server walked -/
def keptOf (T : Tb) (s : Str) : Str := match T.find? (fun x => decide (x.1 = s)) with
  | some x => x.2.2
  | none => s
def entOf (T : Tb) (s c : Str) : Str × Str := match T.find? (fun x => decide (x.1 = s)) with
  | some x => (match x.2.1.find? (fun e => decide (e.1 = c)) with
    | some e => e.2
    | none => (s, s))
  | none => (s, s)
def behF (T : Tb) : List En → Str → Option Str
  | [], s => some s
  | .kept :: r, s => behF T r (keptOf T s)
  | .cmd c _ out :: r, s => if (entOf T s c).1 = out then behF T r (entOf T s c).2 else none
def behind (B : Bk) (T : Tb) (st : Str) (es : List En) : Option Str := if isW B es [] 0 false = true then behF T es st else none
def enNm (B : Bk) : En → Prop
  | .kept => True
  | .cmd c _ _ => c ∈ B.map (·.1)
theorem isW_nm {B : Bk} : ∀ {es : List En} {done : List Int} {tried : Int} {op : Bool}, isW B es done tried op = true → ∀ e ∈ es, enNm B e
  | [], _, _, _, _, _, h => nomatch h
  | .kept :: r, done, tried, op, h, e, he => by
    have h2 := (Bool.and_eq_true_iff.mp (show (op && isW B r done tried false) = true from h)).2
    rcases List.mem_cons.mp he with q | q
    · subst q; trivial
    · exact isW_nm h2 e q
  | .cmd c org out :: r, done, tried, op, h, e, he => by
    have h2 := Bool.and_eq_true_iff.mp (show (okE B done c org out && isW B r _ _ _) = true from h)
    rcases List.mem_cons.mp he with q | q
    · subst q
      by_cases hc : c ∈ B.map (·.1)
      · exact hc
      · have := h2.1
        unfold okE at this
        rw [find_no hc] at this
        cases this
    · exact isW_nm h2.2 e q
/-- a state's dict -/
theorem TDv.at_ {K : PySem.W.Frag} {H : Hp} {tk : List (Key × V)} {T : Tb} {B : Bk} (h : TDv K H tk T) (ok : TbOk B T) {s : Str} (hs : s ∈ T.map (·.1)) :
    ∃ e kvs es kp, valV tk (Sum.inr s : Key) = some (.ref e) ∧ Rd H e (.dK kvs) ∧ EDv K H kvs es kp ∧ EnOk B (T.map (·.1)) es kp ∧ keptOf T s = kp ∧
      ∀ c ∈ B.map (·.1), ∃ v, valV kvs (Sum.inr c : Key) = some v ∧ EntV K H v (entOf T s c).1 (entOf T s c).2 ∧ (entOf T s c).2 ∈ T.map (·.1) ∧ ∃ ty ys, (c, ty, ys) ∈ B ∧ (entOf T s c).1 ∈ ("failed" : Str) :: ys := by
  obtain ⟨x, hf, hm, rfl⟩ := find_at hs
  obtain ⟨e, kvs, q, r, hE⟩ := h.get x hm
  have en := ok.en x hm
  refine ⟨e, kvs, x.2.1, x.2.2, q, r, hE, en, by unfold keptOf; rw [hf], fun c hc => ?_⟩
  obtain ⟨y, hfy, hmy, rfl⟩ := find_at (en.ks.mem_iff.mpr hc)
  have ee : entOf T x.1 y.1 = y.2 := by unfold entOf; rw [hf]; dsimp only; rw [hfy]
  rw [ee]
  obtain ⟨v, hv, ev⟩ := hE.get y hmy
  obtain ⟨a1, a2⟩ := en.en y hmy
  exact ⟨v, hv, ev, a1, a2⟩
def sp_server_call (K : PySem.W.Frag) (CB CS CI : Addr) : Sp := fun vs H Q E => ∃ (v p : Addr) (B : Bk) (TT : Tb) (st : Str) (es : List En), vs = [.ref v, .ref p] ∧ ServerAt K CB CS H v B TT st ∧ BkOk B ∧ TbOk B TT ∧ WorkAt K H p es ∧
  (∀ s, behind B TT st es = some s → s ∈ TT.map (·.1) → ∀ H', Ex H H' → Q (.str s) H') ∧ (behind B TT st es = none → ∀ H', Ex H H' → E (.ref CI) none H')
theorem lkS (b t : Addr) (st : Str) : List.lookup ("own_book" : Str) [(("own_book" : Str), V.ref b), (("own_table" : Str), .ref t), (("own_start" : Str), .str st)] = some (.ref b) ∧
    List.lookup ("own_table" : Str) [(("own_book" : Str), V.ref b), (("own_table" : Str), .ref t), (("own_start" : Str), .str st)] = some (.ref t) ∧
    List.lookup ("own_start" : Str) [(("own_book" : Str), V.ref b), (("own_table" : Str), .ref t), (("own_start" : Str), .str st)] = some (.str st) ∧
    List.lookup ("outcome" : Str) [(("own_book" : Str), V.ref b), (("own_table" : Str), .ref t), (("own_start" : Str), .str st)] = none := by
  have h1 : (("own_table" : Str) == "own_book") = false := by decide +kernel
  have h2 : (("own_start" : Str) == "own_book") = false := by decide +kernel
  have h3 : (("own_start" : Str) == "own_table") = false := by decide +kernel
  have h4 : (("outcome" : Str) == "own_book") = false := by decide +kernel
  have h5 : (("outcome" : Str) == "own_table") = false := by decide +kernel
  have h6 : (("outcome" : Str) == "own_start") = false := by decide +kernel
  simp only [List.lookup, h1, h2, h3, h4, h5, h6, beq_self_eq_true, and_self]
abbrev N_server_call : List Str := ["self", "work", "state", "entry", "outcome", "behind"]
theorem sc_server_call : FnScope N_server_call ["self", "work"] (defScope (cServer 6)) := ⟨rfl, rfl, rfl, by decide +kernel, rfl, by decide +kernel, by decide +kernel⟩
theorem ok_server_call {P : Program} {w : World} {K : PySem.W.Frag} {mg : Str → Option Value} {base : Heap} {CB CS CI : Addr} (T : Txt K mg CB CS CI) {f : Addr} {fd : FuncData} (F : Fun K "__call__" "Server.__call__" (cServer 6) f fd) : FnOk P w K mg base (L2.CX P w) 6 f fd ["self", "work"] (sp_server_call K CB CS CI) := by
  refine F.okX sc_server_call (fun vs H Q E h => ?_) (fun cdv A outer s H vs Q E hr h => ?_)
  · obtain ⟨v, p, B, TT, st, es, rfl, _⟩ := h
    rfl
  · obtain ⟨v, p, B, TT, st, es, rfl, hS, ok, okT, hW, k, kE⟩ := h
    have hu := hu_of hr
    obtain ⟨t_KEPT, h_KEPT⟩ := T.cKept
    refine ⟨_, (pss_cons (ps_if (pt_not (pt_val (pc0 (ok_is_work T) hr (pa_cons (pe_fld (pv 0) rfl) (pa_cons (pv 1) pa_nil))))) (pss_one (ps_raise rfl (takes_of rfl rfl rfl rfl) (pmk_own PySem.F.excBase_ValueError T.xI T.gI T.kI (raises_own T.bI T.tI) rfl))) pss_nil)
      (pss_cons (ps_set (i := 2) sc_server_call.nd rfl (Or.inl rfl) (pe_fld (pv 0) rfl))
      (pss_cons (ps_for (passes_of rfl) rfl (pi_tup (pv 1)) (pg_name (i := 3) sc_server_call.nd rfl (Or.inl rfl))
      (pss_one (ps_if (pt_cmpR op_eq (pe_callB call_len_seq (by rfl) T.zlen bt_len (pa_cons (pv 3) pa_nil)) pe_int (nomark _)) (pss_one (ps_set (i := 2) sc_server_call.nd rfl (Or.inl rfl) (pe_dget hu (pe_dget hu (pe_fld (pv 0) rfl) (pv 2) (fun _ _ => rfl)) (pgS h_KEPT) (fun _ _ => rfl)))) (pss_cons (ps_asg (pe_dget hu (pe_dget hu (pe_fld (pv 0) rfl) (pv 2) (fun _ _ => rfl)) (pe_ix ix_tup (pv 3) pe_int (fun _ _ => rfl)) (fun _ _ => rfl)) (pg_tup (by rfl) (pgs_cons (pg_name (i := 4) sc_server_call.nd rfl (Or.inl rfl)) (pgs_cons (pg_name (i := 5) sc_server_call.nd rfl (Or.inl rfl)) pgs_nil))))
      (pss_cons (ps_if (pt_cmpR op_ne (pv 4) (pe_ix ix_tup (pv 3) pe_int (fun _ _ => rfl)) (nomark _)) (pss_one (ps_raise rfl (takes_of rfl rfl rfl rfl) (pmk_own PySem.F.excBase_ValueError T.xI T.gI T.kI (raises_own T.bI T.tI) rfl))) pss_nil)
      (pss_one (ps_set (i := 2) sc_server_call.nd rfl (Or.inl rfl) (pv 5))))))))
      (pss_one (ps_ret (pv 2)))))), ?_⟩
    obtain ⟨dx, b, t, tk, hv, hB, ht, hT, hst⟩ := id hS
    obtain ⟨l1, l2, l3, l4⟩ := lkS b t st
    obtain ⟨vs, hp, hes, hl⟩ := id hW
    refine ⟨_, rfl, v, CS, dx, _, _, rfl, hv, T.clS, T.nSb, l1, _, rfl, b, B, p, es, rfl, hB, ok, hW, fun H1 e1 => ?_⟩
    refine ⟨_, rfl, ?_⟩
    refine iteNB (fun hw => ?_) (fun hw => ?_)
    · exact kE (by unfold behind; rw [hw]; rfl) H1 e1
    have hv1 := e1 _ _ hv
    have hbh : behind B TT st es = behF TT es st := by unfold behind; rw [if_pos hw]
    refine ⟨_, rfl, v, CS, dx, _, _, rfl, hv1, T.clS, T.nSs, l3, ?_⟩
    refine ⟨_, rfl, p, rfl, ⟨_, ex_t e1 hp⟩, ?_⟩
    have vl := hes.len
    refine for_it (w := walk_tup (xs := vs)) (fun i σ H' => ∃ (s0 : Str) (x3 x4 x5 : Option V), σ = [some (.ref v), some (.ref p), some (.str s0), x3, x4, x5] ∧ behF TT (es.drop i) s0 = behF TT es st ∧ s0 ∈ TT.map (·.1) ∧ Ex H H')
      ⟨st, none, none, none, rfl, rfl, hst, e1⟩ (fun i σ H' _ q => ?_) (fun i x σ H3 H2 hi q y => ?_) (fun σ H' q => ?_)
    · obtain ⟨_, _, _, _, _, _, _, e⟩ := q
      exact ex_t e hp
    · obtain ⟨rfl, hx⟩ := y
      obtain ⟨s0, x3, x4, x5, rfl, eq, hs0, e⟩ := q
      have hi' : i < es.length := by omega
      have hE := (hes.at_ i x es[i] hx (List.getElem?_eq_getElem hi')).kt (Kt.of_ex e)
      have hnm := isW_nm hw es[i] (List.getElem_mem hi')
      have hdr : es.drop i = es[i] :: es.drop (i + 1) := List.drop_eq_getElem_cons hi'
      rw [hdr] at eq
      generalize es[i] = en at hE eq hnm
      obtain ⟨ea, kvs, es0, kp, q1, r1, hE1, en1, hkp, hent⟩ := (hT.kr (.of_ex e)).at_ okT hs0
      have hv2 := e _ _ hv
      have ht2 := ex_rd e ht
      cases en with
      | kept =>
        obtain ⟨q, rfl, h1⟩ := hE
        refine ⟨_, rfl, q, _, rfl, .inr h1, rfl, _, rfl, ?_⟩
        refine iteDT rfl ?_
        refine ⟨_, rfl, v, CS, dx, _, _, rfl, hv2, T.clS, T.nSt, l2, _, rfl, t, _, rfl, dgetS ht2 q1, ea, _, rfl, dgetS r1 hE1.kept, ?_⟩
        refine ⟨kp, _, _, _, rfl, ?_, en1.kp, e⟩
        rw [← eq, ← hkp]
        rfl
      | cmd c org out =>
        obtain ⟨q, a, rfl, h1, _⟩ := hE
        refine ⟨_, rfl, q, _, rfl, .inr h1, rfl, _, rfl, ?_⟩
        refine iteDF (fun z => by have := V.int.inj z; simp at this) ?_
        obtain ⟨vv, hvv, ⟨pe, rfl, hpe⟩, hin, _⟩ := hent c hnm
        refine ⟨_, rfl, v, CS, dx, _, _, rfl, hv2, T.clS, T.nSt, l2, _, rfl, t, _, rfl, dgetS ht2 q1, _, rfl, q, _, (0 : Int), _, rfl, rfl, h1, rfl, ea, _, rfl, dgetS r1 hvv, pe, _, rfl, hpe, rfl, _, _, rfl, _, _, rfl, rfl, ?_⟩
        refine ⟨_, rfl, _, rfl, q, _, (2 : Int), _, rfl, rfl, h1, rfl, rfl, _, rfl, ?_⟩
        have eq2 : (if (entOf TT s0 c).1 = out then behF TT (es.drop (i + 1)) (entOf TT s0 c).2 else none) = behF TT es st := eq
        by_cases ho : (entOf TT s0 c).1 = out
        · refine iteNT (by rw [ho]) ?_
          refine ⟨_, rfl, ?_⟩
          rw [if_pos ho] at eq2
          exact ⟨_, _, _, _, rfl, eq2, hin, e⟩
        · refine iteNF (fun z => ho (V.str.inj z)) ?_
          rw [if_neg ho] at eq2
          exact kE (by rw [hbh]; exact eq2.symm) _ e
    · obtain ⟨s0, x3, x4, x5, rfl, eq, hs0, e⟩ := q
      rw [vl, List.drop_length] at eq
      refine ⟨_, rfl, ?_⟩
      exact k s0 (by rw [hbh, ← eq]; rfl) hs0 H' e
theorem ol_server {P : Program} {w : World} {K : PySem.W.Frag} {mg : Str → Option Value} {base : Heap} {CB CS CI : Addr} (T : Txt K mg CB CS CI) : Ol P w K mg base (L2.CX P w) 6 CS ["self", "work"] (sp_server_call K CB CS CI) := by
  obtain ⟨f, fd, c, F, b⟩ := T.caS
  exact ⟨f, fd, ok_server_call T F, c, b⟩
def sp_server_outcome (K : PySem.W.Frag) (CB CS CI : Addr) : Sp := fun vs H Q E => ∃ (v p : Addr) (B : Bk) (TT : Tb) (st : Str) (es : List En) (c : Str), vs = [.ref v, .ref p, .str c] ∧ ServerAt K CB CS H v B TT st ∧ BkOk B ∧ TbOk B TT ∧ WorkAt K H p es ∧ c ∈ B.map (·.1) ∧
  (∀ s, behind B TT st es = some s → s ∈ TT.map (·.1) → ∀ H', Ex H H' → Q (.str (entOf TT s c).1) H') ∧ (behind B TT st es = none → ∀ H', Ex H H' → E (.ref CI) none H')
abbrev N_server_outcome : List Str := ["self", "work", "command", "state"]
theorem sc_server_outcome : FnScope N_server_outcome ["self", "work", "command"] (defScope (cServer 7)) := ⟨rfl, rfl, rfl, by decide +kernel, rfl, by decide +kernel, by decide +kernel⟩
theorem ok_server_outcome {P : Program} {w : World} {K : PySem.W.Frag} {mg : Str → Option Value} {base : Heap} {CB CS CI : Addr} (T : Txt K mg CB CS CI) : Ml P w K mg base (L2.CX P w) 7 CS "outcome" ["self", "work", "command"] (sp_server_outcome K CB CS CI) := T.ocS.ml fun f fd F => by
  refine F.okX sc_server_outcome (fun vs H Q E h => ?_) (fun cdv A outer s H vs Q E hr h => ?_)
  · obtain ⟨v, p, B, TT, st, es, c, rfl, _⟩ := h
    rfl
  · obtain ⟨v, p, B, TT, st, es, c, rfl, hS, ok, okT, hW, hc, k, kE⟩ := h
    have hu := hu_of hr
    refine ⟨_, (pss_cons (ps_set (i := 3) sc_server_outcome.nd rfl (Or.inl rfl) (pe_callOW (ol_server T) hr (passT (takes_of rfl rfl rfl rfl)) (pv 0) (pa_cons (pv 1) pa_nil)))
      (pss_cons (ps_expr (pc0 (ok_require_command T) hr (pa_cons (pe_fld (pv 0) rfl) (pa_cons (pv 2) pa_nil))))
      (pss_one (ps_ret (pe_ix ix_tup (pe_dget hu (pe_dget hu (pe_fld (pv 0) rfl) (pv 3) (fun _ _ => rfl)) (pv 2) (fun _ _ => rfl)) pe_int (fun _ _ => rfl)))))), ?_⟩
    obtain ⟨dx, b, t, tk, hv, hB, ht, hT, hst⟩ := id hS
    obtain ⟨l1, l2, l3, l4⟩ := lkS b t st
    refine ⟨_, rfl, v, rfl, _, rfl, ⟨dx, _, hv⟩, v, p, B, TT, st, es, rfl, hS, ok, okT, hW, fun s0 hb hs0 H1 e1 => ?_, fun hb H1 e1 => kE hb H1 e1⟩
    obtain ⟨ea, kvs, es0, kp, q1, r1, hE1, en1, hkp, hent⟩ := (hT.kr (.of_ex e1)).at_ okT hs0
    have hv1 := e1 _ _ hv
    have ht1 := ex_rd e1 ht
    refine ⟨_, rfl, v, CS, dx, _, _, rfl, hv1, T.clS, T.nSb, l1, _, rfl, b, B, c, rfl, hB.kr (.of_ex e1), hc, fun H2 e2 => ?_⟩
    obtain ⟨vv, hvv, ⟨pe, rfl, hpe⟩, hin, _⟩ := hent c hc
    refine ⟨_, rfl, v, CS, dx, _, _, rfl, e2 _ _ hv1, T.clS, T.nSt, l2, _, rfl, t, _, rfl, dgetS (ex_rd e2 ht1) q1, _, rfl, ea, _, rfl, dgetS (ex_rd e2 r1) hvv, pe, _, (0 : Int), _, rfl, rfl, ex_t e2 hpe, rfl, ?_⟩
    exact k s0 hb hs0 _ (e1.trans e2)
end Sk
namespace Sk
open PySem L2 KwX Evl RZ
/-! ### dice -/
def Dice (H : Hp) (d : Addr) : Prop := ∃ a b c : Int, H d = some (.lst [.int a, .int b, .int c])
theorem Dice.ex {H H' : Hp} {d : Addr} (h : Dice H d) (e : Ex H H') : Dice H' d := let ⟨a, b, c, q⟩ := h; ⟨a, b, c, e _ _ q⟩
theorem Dice.kr {H H' : Hp} {d : Addr} (h : Dice H d) (k : Kx d H H') : Kr H H' := let ⟨a, b, c, q⟩ := h; k.kr q
theorem cp1 : CPowB 10 60 := ⟨by decide, by decide +kernel⟩
theorem cp2 : CPowB (10 ^ (60 : Int).toNat) 10 := ⟨by decide, by decide +kernel⟩
theorem cp3 : (0 : Int) < (10 ^ (60 : Int).toNat) ^ (10 : Int).toNat := by decide +kernel
theorem cp4 : CPowB 10 18 := ⟨by decide, by decide +kernel⟩
def sp_dice (K : PySem.W.Frag) : Sp := fun vs H Q _ => ∃ (l : Addr) (xs : List Int) (at_ : Nat), vs = [.ref l, .int at_] ∧ SqL K H l (xs.map V.int) ∧ at_ < 1000 ∧ ∀ (H' : Hp) (d : Addr), Ex H H' → H d = none → Dice H' d → Q (.ref d) H'
def sp_roll : Sp := fun vs H Q _ => ∃ (d : Addr) (n : Int), vs = [.ref d, .int n] ∧ Dice H d ∧ 0 < n ∧ n < 1073741824 ∧ ∀ (H' : Hp) (r : Nat), Kx d H H' → Dice H' d → (r : Int) < n → Q (.int r) H'
abbrev N_dice : List Str := ["_law_script", "_law_at", "_law_cell", "_law_great", "_law_mixed_here"]
theorem sc_dice : FnScope N_dice ["_law_script", "_law_at"] (defScope (topS 42)) := ⟨rfl, rfl, rfl, by decide +kernel, rfl, by decide +kernel, by decide +kernel⟩
theorem ok_dice {P : Program} {w : World} {K : PySem.W.Frag} {mg : Str → Option Value} {base : Heap} {CB CS CI : Addr} (T : Txt K mg CB CS CI) : Cl P w K mg base CX0 1 "_law_dice" ["_law_script", "_law_at"] (sp_dice K) := T.f_dice.cl fun f fd F => by
  refine F.ok sc_dice (fun vs H Q E h => ?_) (fun cdv A outer s H vs Q E hr h => ?_)
  · obtain ⟨l, xs, i, rfl, _⟩ := h
    rfl
  · obtain ⟨l, xs, i, rfl, hl, hi, k⟩ := h
    have hu := hu_of hr
    refine ⟨_, (pss_cons (ps_set (i := 2) sc_dice.nd rfl (Or.inl rfl) (pe_op op_add (pe_op op_mul pe_int (pv 1)) pe_int))
      (pss_cons (ps_if (pt_cmpR op_lt (pv 1) (pe_callB call_len_seq (by rfl) T.zlen bt_len (pa_cons (pv 0) pa_nil)) (nomark _)) (pss_one (ps_set (i := 2) sc_dice.nd rfl (Or.inl rfl) (pe_ix ix_list (pv 0) (pv 1) (fun _ _ => rfl)))) pss_nil)
      (pss_cons (ps_set (i := 3) sc_dice.nd rfl (Or.inl rfl) (pe_op op_mod (pe_callTy call_int1 (by rfl) T.zint bt_int (pa_cons (pe_callB call_abs (by rfl) T.zabs bt_abs (pa_cons (pv 2) pa_nil)) pa_nil)) (pe_op op_powB (pe_op op_powB pe_int pe_int) pe_int)))
      (pss_cons (ps_set (i := 4) sc_dice.nd rfl (Or.inl rfl) (pe_op op_add (pe_op op_add (pe_op op_add (pe_op op_mul (pe_op op_mod (pe_callTy call_int1 (by rfl) T.zint bt_int (pa_cons (pv 3) pa_nil)) pe_int) pe_int) (pe_op op_mul pe_int (pv 1))) (pe_op op_mul pe_int (pe_callTy call_int1 (by rfl) T.zint bt_int (pa_cons (pe_cmpR op_lt (pv 2) pe_int (nomark _)) pa_nil)))) pe_int))
      (pss_one (ps_ret (pe_lst (pa_cons (pe_callB (call_max2 rfl) (by rfl) T.zmax bt_max (pa_cons pe_int (pa_cons (pe_op op_sub (pv 3) (pe_op op_powB pe_int pe_int)) pa_nil))) (pa_cons (pe_op op_mod (pe_callTy call_int1 (by rfl) T.zint bt_int (pa_cons (pv 4) pa_nil)) pe_int) (pa_cons pe_int pa_nil)))))))))), ?_⟩
    refine ⟨_, rfl, _, _, rfl, rfl, .inl (by decide), _, _, rfl, rfl, ?_⟩
    refine ⟨_, rfl, _, rfl, l, _, rfl, .inl hl, _, _, rfl, rfl, _, rfl, ?_⟩
    refine iteD (fun hc => ?_) (fun hc => ?_)
    · have hi' : i < xs.length := by rw [List.length_map] at hc; omega
      refine ⟨_, rfl, _, rfl, l, _, _, _, rfl, rfl, hl, atI_nat (by rw [List.getElem?_map, List.getElem?_eq_getElem hi']; rfl), ?_⟩
      refine ⟨_, rfl, _, rfl, .inl ⟨_, rfl, _, _, rfl, rfl, cp1, _, _, rfl, rfl, cp2, _, _, rfl, rfl, cp3, ?_⟩⟩
      refine ⟨_, rfl, .inl ⟨_, rfl, _, _, rfl, rfl, (show (0 : Int) < 2147483549 from by decide), _, _, rfl, rfl, .inr (by decide), _, rfl, _, _, rfl, rfl, .inl (by decide), _, _, rfl, rfl, _, rfl, _, _, rfl, rfl, .inr ⟨_, rfl, _, _, rfl, rfl, .inl (by decide), _, _, rfl, rfl, _, _, rfl, rfl, ?_⟩⟩⟩
      refine ⟨_, rfl, _, _, rfl, rfl, cp4, _, _, rfl, rfl, _, _, rfl, _, rfl, .inl ⟨_, rfl, _, _, rfl, rfl, (show (0 : Int) < 2147483543 from by decide), (by show 3 ≤ sizeLine; exact sz1000 (by decide)), fun d hd => ?_⟩⟩
      exact k _ d (Ex.new hd) hd ⟨_, _, _, upd_same⟩
    · skip
      refine ⟨_, rfl, _, rfl, .inl ⟨_, rfl, _, _, rfl, rfl, cp1, _, _, rfl, rfl, cp2, _, _, rfl, rfl, cp3, ?_⟩⟩
      refine ⟨_, rfl, .inl ⟨_, rfl, _, _, rfl, rfl, (show (0 : Int) < 2147483549 from by decide), _, _, rfl, rfl, .inr (by decide), _, rfl, _, _, rfl, rfl, .inl (by decide), _, _, rfl, rfl, _, rfl, _, _, rfl, rfl, .inr ⟨_, rfl, _, _, rfl, rfl, .inl (by decide), _, _, rfl, rfl, _, _, rfl, rfl, ?_⟩⟩⟩
      refine ⟨_, rfl, _, _, rfl, rfl, cp4, _, _, rfl, rfl, _, _, rfl, _, rfl, .inl ⟨_, rfl, _, _, rfl, rfl, (show (0 : Int) < 2147483543 from by decide), (by show 3 ≤ sizeLine; exact sz1000 (by decide)), fun d hd => ?_⟩⟩
      exact k _ d (Ex.new hd) hd ⟨_, _, _, upd_same⟩
abbrev N_roll : List Str := ["_law_dice_here", "_law_total", "_law_found", "_law_one", "_law_two"]
theorem sc_roll : FnScope N_roll ["_law_dice_here", "_law_total"] (defScope (topS 43)) := ⟨rfl, rfl, rfl, by decide +kernel, rfl, by decide +kernel, by decide +kernel⟩
theorem ok_roll {P : Program} {w : World} {K : PySem.W.Frag} {mg : Str → Option Value} {base : Heap} {CB CS CI : Addr} (T : Txt K mg CB CS CI) : Cl P w K mg base CX0 1 "_law_roll" ["_law_dice_here", "_law_total"] sp_roll := T.f_roll.cl fun f fd F => by
  refine F.ok sc_roll (fun vs H Q E h => ?_) (fun cdv A outer s H vs Q E hr h => ?_)
  · obtain ⟨d, n, rfl, _⟩ := h
    rfl
  · obtain ⟨d, n, rfl, ⟨a, b, c, hd⟩, hn, hb, k⟩ := h
    have hu := hu_of hr
    refine ⟨_, (pss_cons (ps_if (pt_cmpR op_gt (pe_ix ix_list (pv 0) pe_int (fun _ _ => rfl)) pe_int (nomark _)) (pss_cons (ps_set (i := 2) sc_roll.nd rfl (Or.inl rfl) (pe_op op_mod (pe_callTy call_int1 (by rfl) T.zint bt_int (pa_cons (pe_ix ix_list (pv 0) pe_int (fun _ _ => rfl)) pa_nil)) (pv 1)))
      (pss_cons (ps_asg (pe_op op_fdiv (pe_ix ix_list (pv 0) pe_int (fun _ _ => rfl)) (pv 1)) (pg_sub (pv 0) pe_int set_list))
      (pss_one (ps_ret (pv 2))))) pss_nil)
      (pss_cons (ps_asg (pe_op op_add (pe_ix ix_list (pv 0) pe_int (fun _ _ => rfl)) pe_int) (pg_sub (pv 0) pe_int set_list))
      (pss_cons (ps_set (i := 3) sc_roll.nd rfl (Or.inl rfl) (pe_op op_mod (pe_callTy call_int1 (by rfl) T.zint bt_int (pa_cons (pe_op op_add (pe_ix ix_list (pv 0) pe_int (fun _ _ => rfl)) (pe_op op_mul pe_int (pe_ix ix_list (pv 0) pe_int (fun _ _ => rfl)))) pa_nil)) pe_int))
      (pss_cons (ps_set (i := 4) sc_roll.nd rfl (Or.inl rfl) (pe_op op_add (pe_op op_mul (pe_op op_mod (pe_callTy call_int1 (by rfl) T.zint bt_int (pa_cons (pe_op op_mul (pv 3) (pv 3)) pa_nil)) pe_int) (pv 3)) (pe_op op_mul pe_int (pe_ix ix_list (pv 0) pe_int (fun _ _ => rfl)))))
      (pss_cons (ps_set (i := 4) sc_roll.nd rfl (Or.inl rfl) (pe_op op_mod (pe_callTy call_int1 (by rfl) T.zint bt_int (pa_cons (pv 4) pa_nil)) pe_int))
      (pss_one (ps_ret (pe_op op_mod (pe_callTy call_int1 (by rfl) T.zint bt_int (pa_cons (pe_op op_fdiv (pv 4) pe_int) pa_nil)) (pv 1))))))))), ?_⟩
    refine ⟨_, rfl, d, _, (0 : Int), _, rfl, rfl, SqL.of hd, rfl, _, _, rfl, rfl, _, rfl, ?_⟩
    refine iteD (fun ha => ?_) (fun ha => ?_)
    · refine ⟨_, rfl, d, _, (0 : Int), _, rfl, rfl, SqL.of hd, rfl, .inl ⟨_, rfl, ?_⟩⟩
      refine ⟨_, rfl, _, _, rfl, rfl, hn, ?_⟩
      refine ⟨_, rfl, d, _, (0 : Int), _, rfl, rfl, SqL.of hd, rfl, _, rfl, _, _, rfl, rfl, ⟨hn, hb⟩, ?_⟩
      refine ⟨_, rfl, d, _, (0 : Int), 0, rfl, rfl, hd, rfl, ?_⟩
      have e : (((a % n).toNat : Nat) : Int) = a % n := Int.toNat_of_nonneg (Int.emod_nonneg _ (by omega))
      refine ⟨_, rfl, ?_⟩
      have q := k _ (a % n).toNat Kx.at_ ⟨a / n, b, c, upd_same⟩ (by rw [e]; exact Int.emod_lt_of_pos _ hn)
      rw [e] at q
      exact q
    · refine ⟨_, rfl, d, _, (2 : Int), _, rfl, rfl, SqL.of hd, rfl, _, _, rfl, rfl, _, rfl, d, _, (2 : Int), 2, rfl, rfl, hd, rfl, ?_⟩
      have kx : Kx d H (upd H d (.lst ([V.int a, .int b, .int c].set 2 (.int (c + 1))))) := Kx.at_
      have hd1 : (upd H d (.lst ([V.int a, .int b, .int c].set 2 (.int (c + 1))))) d = some (.lst [.int a, .int b, .int (c + 1)]) := upd_same
      generalize upd H d (.lst ([V.int a, .int b, .int c].set 2 (.int (c + 1)))) = H1 at kx hd1 ⊢
      refine ⟨_, rfl, d, _, (1 : Int), _, rfl, rfl, SqL.of hd1, rfl, _, rfl, d, _, (2 : Int), _, rfl, rfl, SqL.of hd1, rfl, _, _, rfl, rfl, .inl (by decide), _, _, rfl, rfl, .inl ⟨_, rfl, _, _, rfl, rfl, (show (0 : Int) < 2305843009213693951 from by decide), ?_⟩⟩
      have oc : -(2 ^ 64) < (b + 1000193 * (c + 1)) % 2305843009213693951 ∧ (b + 1000193 * (c + 1)) % 2305843009213693951 < 2 ^ 64 := by
        have o1 : 0 ≤ (b + 1000193 * (c + 1)) % 2305843009213693951 := Int.emod_nonneg _ (by decide)
        have o2 : (b + 1000193 * (c + 1)) % 2305843009213693951 < 2305843009213693951 := Int.emod_lt_of_pos _ (by decide)
        exact ⟨by omega, by omega⟩
      refine ⟨_, rfl, _, rfl, _, _, rfl, rfl, .inl oc, .inl ⟨_, rfl, _, _, rfl, rfl, (show (0 : Int) < 2305843009213693921 from by decide), _, rfl, _, _, rfl, rfl, .inr oc, _, rfl, d, _, (2 : Int), _, rfl, rfl, SqL.of hd1, rfl, _, _, rfl, rfl, .inl (by decide), _, _, rfl, rfl, ?_⟩⟩
      refine ⟨_, rfl, .inl ⟨_, rfl, _, _, rfl, rfl, (show (0 : Int) < 2305843009213693907 from by decide), ?_⟩⟩
      refine ⟨_, rfl, _, _, rfl, rfl, ⟨by decide, by decide⟩, .inl ⟨_, rfl, _, rfl, _, _, rfl, rfl, hn, ?_⟩⟩
      have fin : ∀ z : Int, Q (.int (z % n)) H1 := fun z => by
        have e : (((z % n).toNat : Nat) : Int) = z % n := Int.toNat_of_nonneg (Int.emod_nonneg _ (by omega))
        have q := k _ (z % n).toNat kx ⟨a, b, c + 1, hd1⟩ (by rw [e]; exact Int.emod_lt_of_pos _ hn)
        rw [e] at q
        exact q
      exact fin _
end Sk
namespace Sk
open PySem L2 KwX Evl RZ
abbrev rLenQ (K : PySem.W.Frag) : List V → Hp → VK → Prop := fun xs H Q => ∃ p ys, xs = [V.ref p] ∧ (SqL K H p ys ∨ SqT K H p ys) ∧ Q (.int ys.length) H
def sp_one_of : Sp := fun vs H Q _ => ∃ (d l : Addr) (xs : List V), vs = [.ref d, .ref l] ∧ Dice H d ∧ H l = some (.lst xs) ∧ l ≠ d ∧ 0 < xs.length ∧ xs.length ≤ 1000 ∧ ∀ (H' : Hp) (x : V), Kx d H H' → Dice H' d → x ∈ xs → Q x H'
def sp_reserved : Sp := fun vs H Q _ => vs = [] ∧ ∀ p, H p = none → Q (.ref p) (upd H p (.lst (reserved.map V.str)))
def sp_mixed : Sp := fun vs H Q _ => ∃ (d l : Addr) (xs : List Str), vs = [.ref d, .ref l] ∧ Dice H d ∧ H l = some (.lst (xs.map V.str)) ∧ l ≠ d ∧ xs.length ≤ 1000 ∧
  ∀ (H' : Hp) (q : Addr) (ys : List Str), Kx d H H' → Dice H' d → H q = none → H' q = some (.lst (ys.map V.str)) → ys.Perm xs → Q (.ref q) H'
theorem map_eraseIdx' {α β : Type} (f : α → β) : ∀ (l : List α) (i : Nat), (l.map f).eraseIdx i = (l.eraseIdx i).map f
  | [], _ => rfl
  | _ :: _, 0 => rfl
  | a :: r, i + 1 => by
    rw [List.map_cons, List.eraseIdx_cons_succ, List.eraseIdx_cons_succ, List.map_cons, map_eraseIdx' f r i]
theorem perm_eraseIdx {α : Type} : ∀ (l : List α) (i : Nat) (h : i < l.length), (l[i] :: l.eraseIdx i).Perm l
  | a :: r, 0, _ => List.Perm.refl _
  | a :: r, i + 1, h => by
    rw [List.getElem_cons_succ, List.eraseIdx_cons_succ]
    exact (List.Perm.swap _ _ _).trans ((perm_eraseIdx r i (by simpa using h)).cons a)
theorem Dice.ne {H : Hp} {d a : Addr} (h : Dice H d) (n : H a = none) : a ≠ d := by
  rintro rfl
  obtain ⟨_, _, _, q⟩ := h
  rw [n] at q; cases q
theorem Dice.upd {H : Hp} {d a : Addr} {u : HO} (h : Dice H d) (n : a ≠ d) : Dice (upd H a u) d := by
  obtain ⟨x, y, z, q⟩ := h
  exact ⟨x, y, z, by rw [upd_ne n.symm]; exact q⟩
abbrev N_one_of : List Str := ["_law_dice_here", "_law_choices"]
theorem sc_one_of : FnScope N_one_of ["_law_dice_here", "_law_choices"] (defScope (topS 44)) := ⟨rfl, rfl, rfl, by decide +kernel, rfl, by decide +kernel, by decide +kernel⟩
theorem ok_one_of {P : Program} {w : World} {K : PySem.W.Frag} {mg : Str → Option Value} {base : Heap} {CB CS CI : Addr} (T : Txt K mg CB CS CI) : Cl P w K mg base CX0 2 "_law_one_of" ["_law_dice_here", "_law_choices"] sp_one_of := T.f_one_of.cl fun f fd F => by
  refine F.ok sc_one_of (fun vs H Q E h => ?_) (fun cdv A outer s H vs Q E hr h => ?_)
  · obtain ⟨d, l, xs, rfl, _⟩ := h
    rfl
  · obtain ⟨d, l, xs, rfl, hD, hl, hn, h0, h1, k⟩ := h
    have hu := hu_of hr
    refine ⟨_, (pss_one (ps_ret (pe_ix ix_list (pv 1) (pc0 (ok_roll T) hr (pa_cons (pv 0) (pa_cons (pe_callB call_len_seq (by rfl) T.zlen bt_len (pa_cons (pv 1) pa_nil)) pa_nil))) (fun _ _ => rfl)))), ?_⟩
    refine ⟨_, rfl, _, rfl, _, rfl, l, _, rfl, .inl (SqL.of hl), d, _, rfl, hD, by omega, by omega, fun H1 r kx hD1 hr1 => ?_⟩
    have hr2 : r < xs.length := by omega
    exact ⟨l, xs, _, _, rfl, rfl, SqL.of (kx _ _ hn hl), atI_nat (List.getElem?_eq_getElem hr2), k H1 _ kx hD1 (List.getElem_mem hr2)⟩
abbrev N_reserved : List Str := []
theorem sc_reserved : FnScope N_reserved [] (defScope (topS 48)) := ⟨rfl, rfl, rfl, by decide +kernel, rfl, by decide +kernel, by decide +kernel⟩
theorem ok_reserved {P : Program} {w : World} {K : PySem.W.Frag} {mg : Str → Option Value} {base : Heap} {CB CS CI : Addr} (T : Txt K mg CB CS CI) : Cl P w K mg base CX0 1 "_law_reserved" [] sp_reserved := T.f_reserved.cl fun f fd F => by
  refine F.ok sc_reserved (fun vs H Q E h => ?_) (fun cdv A outer s H vs Q E hr h => ?_)
  · obtain ⟨rfl, _⟩ := h
    rfl
  · obtain ⟨rfl, k⟩ := h
    have hu := hu_of hr
    refine ⟨_, (pss_one (ps_ret (pe_lst (pa_cons pe_str (pa_cons pe_str (pa_cons pe_str (pa_cons pe_str pa_nil))))))), ?_⟩
    exact ⟨sz1000 (by decide), fun p hp => k p hp⟩
abbrev N_mixed : List Str := ["_law_dice_here", "_law_choices", "_law_left", "_law_turn"]
theorem sc_mixed : FnScope N_mixed ["_law_dice_here", "_law_choices"] (defScope (topS 45)) := ⟨rfl, rfl, rfl, by decide +kernel, rfl, by decide +kernel, by decide +kernel⟩
theorem ok_mixed {P : Program} {w : World} {K : PySem.W.Frag} {mg : Str → Option Value} {base : Heap} {CB CS CI : Addr} (T : Txt K mg CB CS CI) : Cl P w K mg base CX0 2 "_law_mixed" ["_law_dice_here", "_law_choices"] sp_mixed := T.f_mixed.cl fun f fd F => by
  refine F.ok sc_mixed (fun vs H Q E h => ?_) (fun cdv A outer s H vs Q E hr h => ?_)
  · obtain ⟨d, l, xs, rfl, _⟩ := h
    rfl
  · obtain ⟨d, l, xs, rfl, hD, hl, hn, h1, k⟩ := h
    have hu := hu_of hr
    refine ⟨_, (pss_cons (ps_set (i := 2) sc_mixed.nd rfl (Or.inr rfl) (pe_callTy call_list_of (by rfl) T.zlist bt_list (pa_cons (pv 1) pa_nil)))
      (pss_one (ps_ret (pe_lc (te := tBM K "list" rPopAt (tVar 2) (tCons (tCall sp_roll [] E0 (tCons (tVar 0) (tCons (tCB (rLenQ K) (tCons (tVar 2) tNil)) tNil))) tNil)) (own := [("_law_turn", 3)]) (g := gName 3) (tt := tYes) rfl sc_mixed.nd (pi_range1 rfl T.zrange (pa_cons (pe_callB call_len_seq (by rfl) T.zlen bt_len (pa_cons (pv 1) pa_nil)) pa_nil)) (blkOk_by (N := N_mixed) (sc := defScope (topS 45)) (by decide +kernel)) (fun _ _ _ _ _ => (pg_name (i := 3) sc_mixed.nd rfl (Or.inl rfl))) (fun _ _ _ _ _ => pts_nil) (fun _ _ _ _ _ => (pe_bm PySem.F.plainAttrs_list PySem.F.slot_list_pop PySem.F.type_list_pop mt_popAt (pv 2) (pa_cons (pc0 (ok_roll T) hr (pa_cons (pv 0) (pa_cons (pe_callB call_len_seq (by rfl) T.zlen bt_len (pa_cons (pv 2) pa_nil)) pa_nil))) pa_nil))))))), ?_⟩
    refine ⟨_, rfl, l, _, rfl, .inl (SqL.of hl), fun m hm => ?_⟩
    have hmd := hD.ne hm
    have x1 := Ex.new (o := .lst (xs.map V.str)) hm
    have D1 := hD.ex x1
    have hm1 : (upd H m (.lst (xs.map V.str))) m = some (.lst (xs.map V.str)) := upd_same
    generalize upd H m (.lst (xs.map V.str)) = H1 at x1 D1 hm1 ⊢
    have hl1 := x1 _ _ hl
    refine ⟨_, rfl, l, _, rfl, .inl (SqL.of hl1), _, rfl, by rw [List.length_map]; omega, by rw [List.length_map]; omega, fun D hD => ?_⟩
    have hD0 := fresh_back x1 hD
    have hDm : D ≠ m := fun z => by rw [z, hm1] at hD; cases hD
    have hDd := D1.ne hD
    refine lc_it (w := walk_range) (fun i H' => Kx d H H' ∧ Dice H' d ∧ ∃ acc rem : List Str, H' D = some (.lst (acc.map V.str)) ∧ H' m = some (.lst (rem.map V.str)) ∧ (acc ++ rem).Perm xs ∧ acc.length = i)
      ⟨(Kx.of_ex x1).mut hD0, D1.upd hDd, [], xs, upd_same, by rw [upd_ne hDm.symm]; exact hm1, List.Perm.refl _, rfl⟩ (fun _ _ _ _ => trivial) (fun i x H2 H3 hi p y => ?_) (fun H2 p => ?_)
    · obtain ⟨rfl, rfl⟩ := y
      obtain ⟨kx, D2, acc, rem, hDl, hml, pm, al⟩ := p
      have hlen := pm.length_eq
      rw [List.length_append] at hlen
      have hi2 : i < xs.length := by
        have := hi
        rw [List.length_map] at this
        omega
      refine ⟨rfl, ?_⟩
      refine tyes ?_
      refine ⟨_, rfl, .inl ⟨rfl, _, SqL.of hml⟩, _, rfl, _, rfl, m, _, rfl, .inl (SqL.of hml), d, _, rfl, D2, by rw [List.length_map]; omega, by rw [List.length_map]; omega, fun H4 r kx4 D4 hr4 => ?_⟩
      rw [List.length_map] at hr4
      have hr : r < rem.length := by omega
      have hm4 := kx4 _ _ hmd hml
      have hD4 := kx4 _ _ hDd hDl
      refine ⟨m, _, _, r, .str rem[r], rfl, rfl, hm4, by omega, by omega, PyProof.Rows.seqIndex_at (i := (r : Int)) (by omega) (by rw [List.length_map]; omega), by rw [List.getElem?_map, List.getElem?_eq_getElem hr]; rfl, ?_⟩
      refine ⟨_, by rw [upd_ne hDm]; exact hD4, szlt (by rw [List.length_map]; omega), ?_⟩
      refine ⟨((kx.trans kx4).mut hm).mut hD0, (D4.upd hmd).upd hDd, acc ++ [rem[r]], rem.eraseIdx r, ?_, ?_, ?_, ?_⟩
      · rw [upd_same, List.map_append]; rfl
      · rw [upd_ne hDm.symm, upd_same, map_eraseIdx']
      · refine List.Perm.trans ?_ pm
        rw [List.append_assoc]
        refine List.Perm.append_left acc ?_
        exact perm_eraseIdx rem r hr
      · rw [List.length_append, al]; rfl
    · obtain ⟨kx, D2, acc, rem, hDl, hml, pm, al⟩ := p
      have hlen := pm.length_eq
      rw [List.length_append] at hlen
      rw [List.length_map] at al
      have : rem = [] := by
        cases rem with
        | nil => rfl
        | cons a r => simp at hlen; omega
      subst this
      rw [List.append_nil] at pm
      exact k _ D acc kx D2 hD0 hDl pm
end Sk
namespace Sk
open PySem L2 KwX Evl RZ
/-! ### words -/
def one (c : Nat) : Str := ⟨#[c]⟩
theorem nm_of {s : Str} {l : List Nat} (e : s.cps.toList = l) (h1 : 1 ≤ l.length) (h8 : l.length ≤ 8) (h : ∀ c ∈ l, c ∈ letters.cps.toList) : isNm s = true := by
  have hl : s.length = l.length := by rw [← e]; exact Array.length_toList.symm
  unfold isNm
  rw [hl, e, Bool.and_eq_true, Bool.and_eq_true, decide_eq_true_eq, decide_eq_true_eq, List.all_eq_true]
  exact ⟨⟨h1, h8⟩, fun c hc => decide_eq_true (h c hc)⟩
theorem nm_all {s : Str} (h : isNm s = true) : ∀ c ∈ s.cps.toList, c ∈ letters.cps.toList := by
  unfold isNm at h
  rw [Bool.and_eq_true, List.all_eq_true] at h
  exact fun c hc => of_decide_eq_true (h.2 c hc)
theorem cps_app (x y : Str) : (x ++ y).cps.toList = x.cps.toList ++ y.cps.toList := by
  show (x.cps ++ y.cps).toList = _
  exact Array.toList_append
theorem cps_join : ∀ cs : List Nat, (Txt.join ("" : Str) (cs.map one)).cps.toList = cs
  | [] => by rw [TL.join_eq]; rfl
  | [c] => by rw [TL.join_eq]; rfl
  | c :: d :: r => by
    rw [TL.join_eq]
    show (one c ++ ("" : Str) ++ Str.join ("" : Str) ((d :: r).map one)).cps.toList = _
    rw [cps_app, cps_app, ← TL.join_eq, cps_join (d :: r)]
    rfl
theorem cutS_tail {z : Str} (h : 1 ≤ z.length) : (cutS z (some 1) none).cps.toList = z.cps.toList.drop 1 := by
  unfold cutS
  have e : HT.sIx z.length 0 (some 1) = 1 := by
    have := HT.sIx_nat z.length 0 1
    rw [Nat.min_eq_left h] at this
    exact this
  rw [e, HT.sIx_none]
  exact List.take_of_length_le (by rw [List.length_drop]; exact Nat.le_of_eq (by rw [Array.length_toList]; rfl))
theorem sum_one : ∀ cs : List Nat, ((cs.map one).map (·.length)).sum = cs.length
  | [] => rfl
  | a :: r => by
    have := sum_one r
    simp only [List.map_cons, List.sum_cons, List.length_cons, this]
    show 1 + r.length = _
    omega
theorem Dice.free {H H' : Hp} {d f : Addr} (h : Dice H d) (h' : Dice H' d) (k : Kx d H H') (n : H' f = none) : H f = none := by
  obtain ⟨a, b, c, q⟩ := h
  obtain ⟨a', b', c', q'⟩ := h'
  exact k.free q (by rw [q']; simp) n
theorem nm_var {s : Str} (h : isNm s = true) {c : Nat} (hc : c ∈ letters.cps.toList) : isNm (one c ++ cutS s (some 1) none) = true := by
  have hl := isNm_len h
  have e : (one c ++ cutS s (some 1) none).cps.toList = c :: s.cps.toList.drop 1 := by rw [cps_app, cutS_tail hl.1]; rfl
  have sl : s.cps.toList.length = s.length := Array.length_toList
  refine nm_of e (by simp) (by rw [List.length_cons, List.length_drop, sl]; omega) fun d hd => ?_
  rcases List.mem_cons.mp hd with q | q
  · rw [q]; exact hc
  · exact nm_all h d (List.mem_of_mem_drop q)
theorem var_inj {s : Str} (h : 1 ≤ s.length) {c d : Nat} (e : one c ++ cutS s (some 1) none = one d ++ cutS s (some 1) none) : c = d := by
  have := congrArg (fun x => x.cps.toList) e
  rw [cps_app, cps_app] at this
  exact (List.cons.inj this).1
def firsts : List Str := ["a", "aa", "ab", "b", "look", "new", "ok", "put", "zzzzzzzz"]
theorem firsts_nm : ∀ s ∈ firsts, isNm s = true := by decide +kernel
def variants (s : Str) : List Str := letters.cps.toList.map fun c => one c ++ cutS s (some 1) none
theorem letters_nd : letters.cps.toList.Nodup := by decide +kernel
theorem letters_26 : letters.cps.toList.length = 26 := by decide +kernel
theorem variants_nd {s : Str} (h : 1 ≤ s.length) : (variants s).Nodup := by
  unfold variants
  exact List.pairwise_map.mpr (letters_nd.imp fun n e => n (var_inj h e))
/-- one of more than the others have is not among them -/
theorem one_free {os ys : List Str} (nd : ys.Nodup) (h : os.length < ys.length) : ∃ y ∈ ys, y ∉ os := by
  apply Classical.byContradiction
  intro hh
  have : ys ⊆ os := fun y hy => Classical.byContradiction fun hn => hh ⟨y, hy, hn⟩
  have := nd.length_le_of_subset this
  omega
def sp_word : Sp := fun vs H Q _ => ∃ (d l : Addr) (os : List Str), vs = [.ref d, .ref l] ∧ Dice H d ∧ H l = some (.lst (os.map V.str)) ∧ l ≠ d ∧ os.length ≤ 20 ∧
  ∀ (H' : Hp) (s : Str), Kx d H H' → Dice H' d → isNm s = true → s ∉ os → Q (.str s) H'
def sp_words : Sp := fun vs H Q _ => ∃ (d l : Addr) (n : Nat) (os : List Str), vs = [.ref d, .int (n : Int), .ref l] ∧ Dice H d ∧ n ≤ 12 ∧ H l = some (.lst (os.map V.str)) ∧ l ≠ d ∧ os.length ≤ 8 ∧
  ∀ (H' : Hp) (q : Addr) (ys : List Str), Kx d H H' → Dice H' d → H q = none → H' q = some (.lst (ys.map V.str)) → ys.length = n → ys.Nodup → (∀ y ∈ ys, isNm y = true ∧ y ∉ os) → Q (.ref q) H'
abbrev N_word : List Str := ["_law_dice_here", "_law_others", "_law_letters", "_law_word_here", "_law_turn", "_law_some", "_law_letter", "_law_one"]
theorem sc_word : FnScope N_word ["_law_dice_here", "_law_others"] (defScope (topS 46)) := ⟨rfl, rfl, rfl, by decide +kernel, rfl, by decide +kernel, by decide +kernel⟩
theorem ok_word {P : Program} {w : World} {K : PySem.W.Frag} {mg : Str → Option Value} {base : Heap} {CB CS CI : Addr} (T : Txt K mg CB CS CI) : Cl P w K mg base CX0 3 "_law_word" ["_law_dice_here", "_law_others"] sp_word := T.f_word.cl fun f fd F => by
  refine F.ok sc_word (fun vs H Q E h => ?_) (fun cdv A outer s H vs Q E hr h => ?_)
  · obtain ⟨d, l, os, rfl, _⟩ := h
    rfl
  · obtain ⟨d, l, os, rfl, hD, hl, hn, h20, k⟩ := h
    have hu := hu_of hr
    refine ⟨_, (pss_cons (ps_set (i := 2) sc_word.nd rfl (Or.inr rfl) pe_str)
      (pss_cons (ps_set (i := 3) sc_word.nd rfl (Or.inr rfl) (pc0 (ok_one_of T) hr (pa_cons (pv 0) (pa_cons (pe_lst (pa_cons pe_str (pa_cons pe_str (pa_cons pe_str (pa_cons pe_str (pa_cons pe_str (pa_cons pe_str (pa_cons pe_str (pa_cons pe_str (pa_cons pe_str pa_nil)))))))))) pa_nil))))
      (pss_cons (ps_if (pt_cmpR op_eq (pc0 (ok_roll T) hr (pa_cons (pv 0) (pa_cons pe_int pa_nil))) pe_int (nomark _)) (pss_one (ps_set (i := 3) sc_word.nd rfl (Or.inr rfl) (pe_join pe_str (pe_lc (own := [("_law_turn", 4)]) (g := gName 4) (tt := tYes) rfl sc_word.nd (pi_range1 rfl T.zrange (pa_cons (pe_op op_add pe_int (pc0 (ok_roll T) hr (pa_cons (pv 0) (pa_cons pe_int pa_nil)))) pa_nil)) (blkOk_by (N := N_word) (sc := defScope (topS 46)) (by decide +kernel)) (fun _ _ _ _ _ => (pg_name (i := 4) sc_word.nd rfl (Or.inl rfl))) (fun _ _ _ _ _ => pts_nil) (fun _ _ _ _ _ => (pe_ix ix_str (pv 2) (pc0 (ok_roll T) hr (pa_cons (pv 0) (pa_cons pe_int pa_nil))) (fun _ _ => rfl))))))) pss_nil)
      (pss_cons (ps_set (i := 5) sc_word.nd rfl (Or.inl rfl) (pe_op op_cat (pe_lst (pa_cons (pv 3) pa_nil)) (pe_lc (own := [("_law_letter", 6)]) (g := gName 6) (tt := tYes) rfl sc_word.nd (pi_str (pv 2)) (blkOk_by (N := N_word) (sc := defScope (topS 46)) (by decide +kernel)) (fun _ _ _ _ _ => (pg_name (i := 6) sc_word.nd rfl (Or.inl rfl))) (fun _ _ _ _ _ => pts_nil) (fun _ _ _ _ _ => (pe_op op_add_str (pv 6) (pe_slice sl_str (pv 3) (po_some pe_int) po_none))))))
      (pss_one (ps_ret (pe_ix ix_list (pe_lc (tt := tTest (tOp (rIn K true) (tVar 7) (tVar 1))) (own := [("_law_one", 7)]) (g := gName 7) rfl sc_word.nd (pi_list (pv 5)) (blkOk_by (N := N_word) (sc := defScope (topS 46)) (by decide +kernel)) (fun _ _ _ _ _ => (pg_name (i := 7) sc_word.nd rfl (Or.inl rfl))) (fun _ _ _ _ _ => (pts_one (pt_cmpR op_notIn_seq (pv 7) (pv 1) (by rfl)))) (fun _ _ _ _ _ => (pv 7))) pe_int (fun _ _ => rfl)))))))), ?_⟩
    refine ⟨_, rfl, sz1000 (by decide), fun p hp => ?_⟩
    have kx0 : Kx d H (upd H p (.lst (firsts.map V.str))) := Kx.new hp
    have hd0 : p ≠ d := hD.ne hp
    have D0 : Dice (upd H p (.lst (firsts.map V.str))) d := hD.upd hd0
    have hl0 : (upd H p (.lst (firsts.map V.str))) l = some (.lst (os.map V.str)) := Ex.new hp _ _ hl
    refine ⟨d, p, firsts.map V.str, rfl, D0, upd_same, hd0, by decide, by decide, fun H1 x kx1 D1 hx => ?_⟩
    obtain ⟨s0, hs0, rfl⟩ := List.mem_map.mp hx
    have hs := firsts_nm s0 hs0
    have hl1 := kx1 _ _ hn hl0
    refine ⟨_, rfl, d, _, rfl, D1, by decide, by decide, fun H2 r kx2 D2 hr2 => ?_⟩
    have hl2 := kx2 _ _ hn hl1
    have kx12 := (kx0.trans kx1).trans kx2
    refine ⟨rfl, _, rfl, ?_⟩
    refine iteD (fun _ => ?_) (fun _ => ?_)
    · refine ⟨⟨_, rfl⟩, _, rfl, d, _, rfl, D2, by decide, by decide, fun H3 r kx3 D3 hr3 => ?_⟩
      refine ⟨_, _, rfl, rfl, _, rfl, by omega, by omega, fun D hD1 => ?_⟩
      have kxb := kx12.trans kx3
      have hlb := kx3 _ _ hn hl2
      have hDD0 : H D = none := hD.free D3 kxb hD1
      have hDd := D3.ne hD1
      have hlD : l ≠ D := fun z => by rw [z, hD1] at hlb; cases hlb
      refine lc_it (w := walk_range) (fun i H' => Kx d H H' ∧ Dice H' d ∧ H' l = some (.lst (os.map V.str)) ∧ ∃ cs : List Nat, H' D = some (.lst ((cs.map one).map V.str)) ∧ cs.length = i ∧ ∀ c ∈ cs, c ∈ letters.cps.toList)
        ⟨kxb.mut hDD0, D3.upd hDd, by rw [upd_ne hlD]; exact hlb, [], upd_same, rfl, fun _ h => nomatch h⟩ (fun _ _ _ _ => trivial) (fun i x Ha Hb hi p y => ?_) (fun H4 p => ?_)
      · obtain ⟨rfl, rfl⟩ := y
        obtain ⟨kxi, Di, hli, cs, hcs, cl, call⟩ := p
        refine ⟨rfl, ?_⟩
        refine tyes ?_
        refine ⟨_, rfl, _, rfl, d, _, rfl, Di, by decide, by decide, fun H5 r5 kx5 D5 hr5 => ?_⟩
        have hr6 : r5 < letters.cps.toList.length := by rw [letters_26]; omega
        refine ⟨_, _, letters.cps.toList[r5], rfl, rfl, by decide +kernel, atI_nat (List.getElem?_eq_getElem hr6), ?_⟩
        refine ⟨_, kx5 _ _ hDd hcs, szlt (by rw [List.length_map, List.length_map]; omega), (kxi.trans kx5).mut hDD0, D5.upd hDd, by rw [upd_ne hlD]; exact kx5 _ _ hn hli, cs ++ [letters.cps.toList[r5]], ?_, ?_, ?_⟩
        · rw [upd_same, List.map_append, List.map_append]; rfl
        · rw [List.length_append, cl]; rfl
        · intro c hc
          rcases List.mem_append.mp hc with hc | hc
          · exact call c hc
          · rw [List.mem_singleton.mp hc]; exact List.getElem_mem hr6
      · obtain ⟨kxi, Di, hli, cs, hcs, cl, call⟩ := p
        refine ⟨_, D, cs.map one, rfl, rfl, .inl (SqL.of hcs), ?_, ?_⟩
        · have : ((cs.map one).map (·.length)).sum = cs.length := sum_one cs
          rw [this, List.length_map]
          show cs.length + cs.length * 0 ≤ 16777216
          omega
        have hs' : isNm (Txt.join ("" : Str) (cs.map one)) = true := nm_of (cps_join cs) (by omega) (by omega) call
        have kx3' := kxi
        have hl3 := hli
        have D3' := Di
        have hs1 := hs
        clear hs kx3 D3
        have hs := hs'
        have kx3 := kx3'
        have D3 := D3'
        generalize Txt.join ("" : Str) (cs.map one) = s0 at hs ⊢
        generalize H4 = H3 at kx3 hl3 D3 ⊢
        have hlen := isNm_len hs
        refine ⟨_, rfl, sz1000 (by show 1 ≤ 1000; decide), fun p1 hp1 => ?_⟩
        have x1 := Ex.new (o := .lst [V.str s0]) hp1
        have h1 : (upd H3 p1 (.lst [V.str s0])) p1 = some (.lst [V.str s0]) := upd_same
        generalize upd H3 p1 (.lst [V.str s0]) = H4 at x1 h1 ⊢
        refine ⟨_, rfl, _, rfl, fun D1 hD1 => ?_⟩
        refine lc_mapN (w := walk_str) hD1 (by decide +kernel) (fun _ => rfl) (fun _ _ => trivial) (fun i => .str (one (letters.cps.toList.getD i 0) ++ cutS s0 (some 1) none)) (fun i x Ha Hb hi e y => ?_) (fun H5 e5 hl5 => ?_)
        · obtain ⟨rfl, c, hc, rfl⟩ := y
          have ec : letters.cps.toList.getD i 0 = c := by
            have hi' : i < letters.cps.toList.length := by rw [Array.length_toList]; exact hi
            rw [getD_lt hi', Array.getElem_toList]
            rw [Array.getElem?_eq_getElem hi] at hc
            exact Option.some.inj hc
          rw [ec]
          refine ⟨Ex.refl _, fun H6 e6 Q6 q6 => ?_⟩
          refine ⟨_, rfl, _, rfl, _, rfl, s0, rfl, sz1000 (by omega), _, _, rfl, rfl, sz1000 ?_, q6 H6 (Ex.refl _)⟩
          have q1 : (cutS s0 (some 1) none).length = s0.length - 1 := by
            have := congrArg List.length (cutS_tail hlen.1)
            rw [Array.length_toList, List.length_drop, Array.length_toList] at this
            exact this
          show 1 + (cutS s0 (some 1) none).length ≤ 1000
          omega
        · have ev : ((List.range letters.cps.size).map fun i => V.str (one (letters.cps.toList.getD i 0) ++ cutS s0 (some 1) none)) = (variants s0).map V.str := by
            unfold variants
            conv => rhs; rw [← range_getD letters.cps.toList 0]
            rw [List.map_map, List.map_map, Array.length_toList]
            rfl
          have hl5 : H5 D1 = some (.lst ((variants s0).map V.str)) := by rw [← ev]; exact hl5
          have vl : (variants s0).length = 26 := by unfold variants; rw [List.length_map]; exact letters_26
          refine ⟨p1, D1, _, _, rfl, rfl, e5 _ _ h1, hl5, sz1000 (by rw [List.length_map, vl]; show 1 + 26 ≤ 1000; decide), fun q hq => ?_⟩
          have el : [V.str s0] ++ (variants s0).map V.str = (s0 :: variants s0).map V.str := rfl
          rw [el]
          have x6 := (x1.trans e5).trans (Ex.new (o := .lst ((s0 :: variants s0).map V.str)) hq)
          have hq6 : (upd H5 q (.lst ((s0 :: variants s0).map V.str))) q = some (.lst ((s0 :: variants s0).map V.str)) := upd_same
          generalize upd H5 q (.lst ((s0 :: variants s0).map V.str)) = H6 at x6 hq6 ⊢
          have nmv : ∀ y ∈ s0 :: variants s0, isNm y = true := fun y hy => by
            rcases List.mem_cons.mp hy with z | z
            · rw [z]; exact hs
            · obtain ⟨c, hc, rfl⟩ := List.mem_map.mp z
              exact nm_var hs hc
          refine ⟨_, rfl, q, rfl, ⟨_, SqL.of hq6⟩, fun D2 hD2 => ?_⟩
          have wl : ((s0 :: variants s0).map V.str).length = (s0 :: variants s0).length := List.length_map _
          have wl2 : (s0 :: variants s0).length = 27 := by rw [List.length_cons, vl]
          refine lc_filtN (w := walk_list (xs := (s0 :: variants s0).map V.str)) hD2 (by rw [wl, wl2]; decide) (fun _ => rfl) (fun H7 e7 => ex_l e7 (SqL.of hq6)) (fun i => decide ((s0 :: variants s0).getD i Str.empty ∉ os)) (fun i => .str ((s0 :: variants s0).getD i Str.empty)) (fun i x Ha Hb hi e y => ?_) (fun H7 e7 hl7 => ?_)
          · obtain ⟨rfl, hx⟩ := y
            rw [wl] at hi
            have ex0 : x = .str ((s0 :: variants s0).getD i Str.empty) := by
              rw [List.getElem?_map, List.getElem?_eq_getElem hi] at hx
              rw [getD_lt hi]
              exact (Option.some.inj hx).symm
            subst ex0
            refine ⟨Ex.refl _, fun H8 e8 Q8 q8 => ?_, fun _ H8 e8 Q8 q8 => ⟨_, rfl, q8 H8 (Ex.refl _)⟩⟩
            refine ⟨_, rfl, _, rfl, l, _, rfl, .inl (SqL.of (e8 _ _ (e _ _ (x6 _ _ hl3)))), rfl, flat_strs _, _, rfl, ?_⟩
            have := q8 H8 (Ex.refl _)
            rw [decide_not] at this
            show Q8 (!inV _ _) H8
            rw [inV_str]
            exact this
          · cases hf : (List.range ((s0 :: variants s0).map V.str).length).filter fun i => decide ((s0 :: variants s0).getD i Str.empty ∉ os) with
            | nil =>
              exfalso
              obtain ⟨y, hy, hyn⟩ := one_free (variants_nd hlen.1) (show os.length < (variants s0).length by rw [vl]; omega)
              obtain ⟨i, hi, ei⟩ := List.mem_iff_getElem.mp (List.mem_cons_of_mem s0 hy)
              have := List.filter_eq_nil_iff.mp hf i (List.mem_range.mpr (by rw [wl]; exact hi))
              rw [getD_lt hi, ei] at this
              exact this (decide_eq_true hyn)
            | cons i0 r =>
              have mi : i0 ∈ (List.range ((s0 :: variants s0).map V.str).length).filter fun i => decide ((s0 :: variants s0).getD i Str.empty ∉ os) := by rw [hf]; exact List.mem_cons_self ..
              obtain ⟨m1, m2⟩ := List.mem_filter.mp mi
              have m1 := List.mem_range.mp m1
              rw [wl] at m1
              have m2 := of_decide_eq_true m2
              rw [hf] at hl7
              refine ⟨D2, _, (0 : Int), .str ((s0 :: variants s0).getD i0 Str.empty), rfl, rfl, SqL.of hl7, atI_nat (j := 0) rfl, ?_⟩
              refine k _ _ (kx3.trans (.of_ex (x6.trans e7))) (D3.ex (x6.trans e7)) ?_ m2
              rw [getD_lt m1]
              exact nmv _ (List.getElem_mem m1)
    · have kx3 := kx12
      have hl3 := hl2
      have D3 := D2
      generalize H2 = H3 at kx3 hl3 D3
      have hlen := isNm_len hs
      refine ⟨_, rfl, sz1000 (by show 1 ≤ 1000; decide), fun p1 hp1 => ?_⟩
      have x1 := Ex.new (o := .lst [V.str s0]) hp1
      have h1 : (upd H3 p1 (.lst [V.str s0])) p1 = some (.lst [V.str s0]) := upd_same
      generalize upd H3 p1 (.lst [V.str s0]) = H4 at x1 h1 ⊢
      refine ⟨_, rfl, _, rfl, fun D1 hD1 => ?_⟩
      refine lc_mapN (w := walk_str) hD1 (by decide +kernel) (fun _ => rfl) (fun _ _ => trivial) (fun i => .str (one (letters.cps.toList.getD i 0) ++ cutS s0 (some 1) none)) (fun i x Ha Hb hi e y => ?_) (fun H5 e5 hl5 => ?_)
      · obtain ⟨rfl, c, hc, rfl⟩ := y
        have ec : letters.cps.toList.getD i 0 = c := by
          have hi' : i < letters.cps.toList.length := by rw [Array.length_toList]; exact hi
          rw [getD_lt hi', Array.getElem_toList]
          rw [Array.getElem?_eq_getElem hi] at hc
          exact Option.some.inj hc
        rw [ec]
        refine ⟨Ex.refl _, fun H6 e6 Q6 q6 => ?_⟩
        refine ⟨_, rfl, _, rfl, _, rfl, s0, rfl, sz1000 (by omega), _, _, rfl, rfl, sz1000 ?_, q6 H6 (Ex.refl _)⟩
        have q1 : (cutS s0 (some 1) none).length = s0.length - 1 := by
          have := congrArg List.length (cutS_tail hlen.1)
          rw [Array.length_toList, List.length_drop, Array.length_toList] at this
          exact this
        show 1 + (cutS s0 (some 1) none).length ≤ 1000
        omega
      · have ev : ((List.range letters.cps.size).map fun i => V.str (one (letters.cps.toList.getD i 0) ++ cutS s0 (some 1) none)) = (variants s0).map V.str := by
          unfold variants
          conv => rhs; rw [← range_getD letters.cps.toList 0]
          rw [List.map_map, List.map_map, Array.length_toList]
          rfl
        have hl5 : H5 D1 = some (.lst ((variants s0).map V.str)) := by rw [← ev]; exact hl5
        have vl : (variants s0).length = 26 := by unfold variants; rw [List.length_map]; exact letters_26
        refine ⟨p1, D1, _, _, rfl, rfl, e5 _ _ h1, hl5, sz1000 (by rw [List.length_map, vl]; show 1 + 26 ≤ 1000; decide), fun q hq => ?_⟩
        have el : [V.str s0] ++ (variants s0).map V.str = (s0 :: variants s0).map V.str := rfl
        rw [el]
        have x6 := (x1.trans e5).trans (Ex.new (o := .lst ((s0 :: variants s0).map V.str)) hq)
        have hq6 : (upd H5 q (.lst ((s0 :: variants s0).map V.str))) q = some (.lst ((s0 :: variants s0).map V.str)) := upd_same
        generalize upd H5 q (.lst ((s0 :: variants s0).map V.str)) = H6 at x6 hq6 ⊢
        have nmv : ∀ y ∈ s0 :: variants s0, isNm y = true := fun y hy => by
          rcases List.mem_cons.mp hy with z | z
          · rw [z]; exact hs
          · obtain ⟨c, hc, rfl⟩ := List.mem_map.mp z
            exact nm_var hs hc
        refine ⟨_, rfl, q, rfl, ⟨_, SqL.of hq6⟩, fun D2 hD2 => ?_⟩
        have wl : ((s0 :: variants s0).map V.str).length = (s0 :: variants s0).length := List.length_map _
        have wl2 : (s0 :: variants s0).length = 27 := by rw [List.length_cons, vl]
        refine lc_filtN (w := walk_list (xs := (s0 :: variants s0).map V.str)) hD2 (by rw [wl, wl2]; decide) (fun _ => rfl) (fun H7 e7 => ex_l e7 (SqL.of hq6)) (fun i => decide ((s0 :: variants s0).getD i Str.empty ∉ os)) (fun i => .str ((s0 :: variants s0).getD i Str.empty)) (fun i x Ha Hb hi e y => ?_) (fun H7 e7 hl7 => ?_)
        · obtain ⟨rfl, hx⟩ := y
          rw [wl] at hi
          have ex0 : x = .str ((s0 :: variants s0).getD i Str.empty) := by
            rw [List.getElem?_map, List.getElem?_eq_getElem hi] at hx
            rw [getD_lt hi]
            exact (Option.some.inj hx).symm
          subst ex0
          refine ⟨Ex.refl _, fun H8 e8 Q8 q8 => ?_, fun _ H8 e8 Q8 q8 => ⟨_, rfl, q8 H8 (Ex.refl _)⟩⟩
          refine ⟨_, rfl, _, rfl, l, _, rfl, .inl (SqL.of (e8 _ _ (e _ _ (x6 _ _ hl3)))), rfl, flat_strs _, _, rfl, ?_⟩
          have := q8 H8 (Ex.refl _)
          rw [decide_not] at this
          show Q8 (!inV _ _) H8
          rw [inV_str]
          exact this
        · cases hf : (List.range ((s0 :: variants s0).map V.str).length).filter fun i => decide ((s0 :: variants s0).getD i Str.empty ∉ os) with
          | nil =>
            exfalso
            obtain ⟨y, hy, hyn⟩ := one_free (variants_nd hlen.1) (show os.length < (variants s0).length by rw [vl]; omega)
            obtain ⟨i, hi, ei⟩ := List.mem_iff_getElem.mp (List.mem_cons_of_mem s0 hy)
            have := List.filter_eq_nil_iff.mp hf i (List.mem_range.mpr (by rw [wl]; exact hi))
            rw [getD_lt hi, ei] at this
            exact this (decide_eq_true hyn)
          | cons i0 r =>
            have mi : i0 ∈ (List.range ((s0 :: variants s0).map V.str).length).filter fun i => decide ((s0 :: variants s0).getD i Str.empty ∉ os) := by rw [hf]; exact List.mem_cons_self ..
            obtain ⟨m1, m2⟩ := List.mem_filter.mp mi
            have m1 := List.mem_range.mp m1
            rw [wl] at m1
            have m2 := of_decide_eq_true m2
            rw [hf] at hl7
            refine ⟨D2, _, (0 : Int), .str ((s0 :: variants s0).getD i0 Str.empty), rfl, rfl, SqL.of hl7, atI_nat (j := 0) rfl, ?_⟩
            refine k _ _ (kx3.trans (.of_ex (x6.trans e7))) (D3.ex (x6.trans e7)) ?_ m2
            rw [getD_lt m1]
            exact nmv _ (List.getElem_mem m1)
abbrev N_words : List Str := ["_law_dice_here", "_law_many", "_law_others", "_law_found", "_law_turn"]
theorem sc_words : FnScope N_words ["_law_dice_here", "_law_many", "_law_others"] (defScope (topS 47)) := ⟨rfl, rfl, rfl, by decide +kernel, rfl, by decide +kernel, by decide +kernel⟩
theorem ok_words {P : Program} {w : World} {K : PySem.W.Frag} {mg : Str → Option Value} {base : Heap} {CB CS CI : Addr} (T : Txt K mg CB CS CI) : Cl P w K mg base CX0 4 "_law_words" ["_law_dice_here", "_law_many", "_law_others"] sp_words := T.f_words.cl fun f fd F => by
  refine F.ok sc_words (fun vs H Q E h => ?_) (fun cdv A outer s H vs Q E hr h => ?_)
  · obtain ⟨d, l, n, os, rfl, _⟩ := h
    rfl
  · obtain ⟨d, l, n, os, rfl, hD, h12, hl, hn, h8, k⟩ := h
    have hu := hu_of hr
    refine ⟨_, (pss_cons (ps_set (i := 3) sc_words.nd rfl (Or.inl rfl) (pe_lst pa_nil))
      (pss_cons (ps_for PassesOwn.never rfl (pi_range1 rfl T.zrange (pa_cons (pv 1) pa_nil)) (pg_name (i := 4) sc_words.nd rfl (Or.inl rfl))
      (pss_one (ps_expr (pe_bm PySem.F.plainAttrs_list PySem.F.slot_list_append PySem.F.type_list_append mt_append (pv 3) (pa_cons (pc0 (ok_word T) hr (pa_cons (pv 0) (pa_cons (pe_op op_cat (pv 3) (pv 2)) pa_nil))) pa_nil)))))
      (pss_one (ps_ret (pv 3))))), ?_⟩
    refine ⟨sz1000 (by show 0 ≤ 1000; decide), fun q hq => ?_⟩
    have x1 := Ex.new (o := .lst []) hq
    have hqd := hD.ne hq
    have hlq : l ≠ q := fun z => by rw [z, hq] at hl; cases hl
    refine ⟨_, rfl, _, rfl, by omega, by omega, ?_⟩
    refine for_it (w := walk_range) (fun i σ H' => ∃ x4, σ = [some (.ref d), some (.int (n : Int)), some (.ref l), some (.ref q), x4] ∧ Kx d H H' ∧ Dice H' d ∧ ∃ ys : List Str, H' q = some (.lst (ys.map V.str)) ∧ ys.length = i ∧ ys.Nodup ∧ ∀ y ∈ ys, isNm y = true ∧ y ∉ os)
      ⟨none, rfl, Kx.of_ex x1, hD.ex x1, [], upd_same, rfl, List.nodup_nil, fun _ h => nomatch h⟩ (fun _ _ _ _ _ => trivial) (fun i x σ Ha Hb hi p y => ?_) (fun σ H4 p => ?_)
    · obtain ⟨rfl, rfl⟩ := y
      obtain ⟨x4, rfl, kx, D1, ys, hqs, yl, ynd, yall⟩ := p
      have hl1 := kx _ _ hn hl
      have hin : i < n := by simpa using hi
      refine ⟨_, rfl, .inl ⟨rfl, _, SqL.of hqs⟩, _, rfl, _, rfl, _, rfl, q, l, _, _, rfl, rfl, hqs, hl1, sz1000 (by rw [List.length_map, List.length_map]; omega), fun p hp => ?_⟩
      have x2 := Ex.new (o := .lst (ys.map V.str ++ os.map V.str)) hp
      refine ⟨d, p, ys ++ os, rfl, D1.ex x2, by rw [List.map_append]; exact upd_same, D1.ne hp, by rw [List.length_append]; omega, fun H4 s0 kx4 D4 nm nin => ?_⟩
      refine ⟨q, _, _, rfl, rfl, kx4 _ _ hqd (x2 _ _ hqs), szlt (by rw [List.length_map]; omega), ?_⟩
      refine ⟨_, rfl, ((kx.trans (.of_ex x2)).trans kx4).mut hq, D4.upd hqd, ys ++ [s0], by rw [upd_same, List.map_append]; rfl, by rw [List.length_append, yl]; rfl, ?_, ?_⟩
      · refine List.nodup_append.mpr ⟨ynd, by simp, fun a ha b hb e => ?_⟩
        rw [List.mem_singleton.mp hb] at e
        subst e
        exact nin (List.mem_append_left _ ha)
      · intro y hy
        rcases List.mem_append.mp hy with hy | hy
        · exact yall y hy
        · rw [List.mem_singleton.mp hy]
          exact ⟨nm, fun z => nin (List.mem_append_right _ z)⟩
    · obtain ⟨x4, rfl, kx, D1, ys, hqs, yl, ynd, yall⟩ := p
      refine ⟨_, rfl, ?_⟩
      exact k _ q ys kx D1 hq hqs (by simpa using yl) ynd yall
end Sk
namespace Sk
open PySem L2 KwX Evl RZ
theorem ltCps_lt : ∀ a b : List Nat, PySem.Spec.ltCps a b = decide (a < b)
  | [], [] => by simp [PySem.Spec.ltCps]
  | [], _ :: _ => by simp [PySem.Spec.ltCps]
  | _ :: _, [] => by simp [PySem.Spec.ltCps]
  | a :: r, b :: t => by
    unfold PySem.Spec.ltCps
    rw [ltCps_lt r t]
    rw [Bool.eq_iff_iff]
    simp [List.cons_lt_cons_iff]
theorem lt_tri : ∀ {a b : List Nat}, a ≠ b → ¬ b < a → a < b
  | [], [], h, _ => absurd rfl h
  | [], _ :: _, _, _ => by simp
  | _ :: _, [], _, h => absurd (by simp) h
  | a :: r, b :: t, n, h => by
    rw [List.cons_lt_cons_iff] at h ⊢
    by_cases e : a = b
    · subst e
      refine .inr ⟨rfl, lt_tri (fun z => n (by rw [z])) (fun z => h (.inr ⟨rfl, z⟩))⟩
    · have : ¬ b < a := fun z => h (.inl z)
      exact .inl (by omega)
theorem asc_of : ∀ (r : List Str) (p : Str), PyProof.Rows.risingS p r = true → (p :: r).Nodup → (p :: r).Pairwise strLt
  | [], _, _, _ => by simp
  | x :: r, p, h, nd => by
    have h' := Bool.and_eq_true_iff.mp (show (!PySem.Spec.ltCps x.cps.toList p.cps.toList && PyProof.Rows.risingS x r) = true from h)
    have nd' := List.nodup_cons.mp nd
    have ih := asc_of r x h'.2 nd'.2
    have hpx : strLt p x := by
      refine lt_tri (fun z => ?_) (fun z => ?_)
      · refine nd'.1 ?_
        have : p = x := by
          obtain ⟨p⟩ := p
          obtain ⟨x⟩ := x
          exact congrArg Str.mk (Array.toList_inj.mp z)
        rw [this]; exact List.mem_cons_self ..
      · have := h'.1
        rw [ltCps_lt, decide_eq_true z] at this
        cases this
    refine List.pairwise_cons.mpr ⟨fun y hy => ?_, ih⟩
    rcases List.mem_cons.mp hy with e | e
    · rw [e]; exact hpx
    · exact List.lt_trans hpx (List.rel_of_pairwise_cons ih e)
theorem asc_sorted {ys : List Str} (h : PyProof.Rows.sortedS ys = true) (nd : ys.Nodup) : ys.Pairwise strLt := by
  cases ys with
  | nil => simp
  | cons p r => exact asc_of r p h nd
theorem keys_new {kvs : List (Key × V)} {k : Key} (v : V) (h : valV kvs k = none) : (putK kvs k v).map (·.1) = kvs.map (·.1) ++ [k] := by
  rw [putK_new v h, List.map_append]; rfl
theorem keys_old {kvs : List (Key × V)} {k : Key} (v : V) (h : (valV kvs k).isSome = true) : (putK kvs k v).map (·.1) = kvs.map (·.1) := by
  unfold putK
  rw [if_pos (by rw [valV_any]; exact h), List.map_map]
  refine List.map_congr_left fun x _ => ?_
  show (if x.1 = k then (x.1, v) else x).1 = x.1
  split <;> rfl
theorem Dice.ne' {H : Hp} {d a : Addr} {xs : List Str} (h : Dice H d) (n : H a = some (.lst (xs.map V.str))) : a ≠ d := by
  rintro rfl
  obtain ⟨_, _, _, q⟩ := h
  rw [n] at q
  cases xs with
  | nil => cases q
  | cons x r => cases q
theorem PKv.put {K : PySem.W.Frag} {H : Hp} {kvs : List (Key × V)} {B : Bk} (h : PKv K H kvs B) {s : Str} {t : Nat} {ys : List Str} {v : V} (hs : s ∉ B.map (·.1)) (hv : PairV K H v t ys) : PKv K H (putK kvs (Sum.inr s) v) (B ++ [(s, t, ys)]) := by
  have n := h.no hs
  obtain ⟨ns, e, p⟩ := h.ks
  refine ⟨⟨ns ++ [s], ?_, ?_⟩, fun b hb => ?_⟩
  · rw [keys_new v n, e, List.map_append]; rfl
  · rw [List.map_append]; exact p.append_right _
  · rw [valV_put]
    rcases List.mem_append.mp hb with hb | hb
    · have : (Sum.inr b.1 : Key) ≠ Sum.inr s := fun z => hs (by rw [← Sum.inr.inj z]; exact List.mem_map.mpr ⟨b, hb, rfl⟩)
      rw [if_neg this]
      exact h.get b hb
    · rw [List.mem_singleton.mp hb, if_pos rfl]
      exact ⟨v, rfl, hv⟩
def sp_pairs (K : PySem.W.Frag) : Sp := fun vs H Q _ => ∃ (d : Addr), vs = [.ref d, .int 4] ∧ Dice H d ∧
  ∀ (H' : Hp) (q : Addr) (kvs : List (Key × V)) (B : Bk), Kx d H H' → Dice H' d → H q = none → H' q = some (.dK kvs) → PKv K H' kvs B → BkOk B → Q (.ref q) H'
def sp_loutcomes (K : PySem.W.Frag) : Sp := fun vs H Q _ => ∃ (pd : Addr) (B : Bk) (c : Str) (t : Nat) (ys : List Str), vs = [.ref pd, .str c] ∧ PDic K H pd B ∧ BkOk B ∧ (c, t, ys) ∈ B ∧
  ∀ (H' : Hp) (q : Addr) (zs : List Str), Ex H H' → H q = none → H' q = some (.lst (zs.map V.str)) → zs.Perm ("failed" :: ys) → Q (.ref q) H'
abbrev N_pairs : List Str := ["_law_dice_here", "_law_most", "_law_found", "_law_name", "_law_answers"]
theorem sc_pairs : FnScope N_pairs ["_law_dice_here", "_law_most"] (defScope (topS 49)) := ⟨rfl, rfl, rfl, by decide +kernel, rfl, by decide +kernel, by decide +kernel⟩
theorem ok_pairs {P : Program} {w : World} {K : PySem.W.Frag} {mg : Str → Option Value} {base : Heap} {CB CS CI : Addr} (T : Txt K mg CB CS CI) : Cl P w K mg base CX0 5 "_law_pairs" ["_law_dice_here", "_law_most"] (sp_pairs K) := T.f_pairs.cl fun f fd F => by
  refine F.ok sc_pairs (fun vs H Q E h => ?_) (fun cdv A outer s H vs Q E hr h => ?_)
  · obtain ⟨d, rfl, _⟩ := h
    rfl
  · obtain ⟨d, rfl, hD, k⟩ := h
    have hu := hu_of hr
    refine ⟨_, (pss_cons (ps_set (i := 2) sc_pairs.nd rfl (Or.inl rfl) pe_dnewK)
      (pss_cons (ps_for PassesOwn.never rfl (pi_list (pc0 (ok_words T) hr (pa_cons (pv 0) (pa_cons (pe_op op_add pe_int (pc0 (ok_roll T) hr (pa_cons (pv 0) (pa_cons (pv 1) pa_nil)))) (pa_cons (pc00 (ok_reserved T) hr) pa_nil))))) (pg_name (i := 3) sc_pairs.nd rfl (Or.inl rfl))
      (pss_cons (ps_set (i := 4) sc_pairs.nd rfl (Or.inl rfl) (pc0 (ok_words T) hr (pa_cons (pv 0) (pa_cons (pe_op op_add pe_int (pc0 (ok_roll T) hr (pa_cons (pv 0) (pa_cons pe_int pa_nil)))) (pa_cons (pc00 (ok_reserved T) hr) pa_nil)))))
      (pss_one (ps_dput hu (pv 2) (pv 3) (pe_tup (pa_cons (pc0 (ok_roll T) hr (pa_cons (pv 0) (pa_cons pe_int pa_nil))) (pa_cons (pe_callTy call_tuple_of (by rfl) T.ztuple bt_tuple (pa_cons (pe_callB cr_sortedS (by rfl) T.zsorted bt_sorted (pa_cons (pv 4) pa_nil)) pa_nil)) pa_nil))) rfl))))
      (pss_one (ps_ret (pv 2))))), ?_⟩
    intro q hq
    have hqd := hD.ne hq
    have x1 := Ex.new (o := .dK []) hq
    have D1 := hD.ex x1
    have kx1 : Kx d H (upd H q (.dK [])) := .of_ex x1
    have hq1 : (upd H q (.dK [])) q = some (.dK []) := upd_same
    generalize upd H q (.dK []) = H1 at x1 D1 kx1 hq1 ⊢
    refine ⟨_, rfl, _, rfl, _, rfl, d, _, rfl, D1, by decide, by decide, fun H2 r kx2 D2 hr2 => ?_⟩
    refine ⟨_, _, rfl, rfl, rfl, fun l0 hl0 => ?_⟩
    have x3 := Ex.new (o := .lst (reserved.map V.str)) hl0
    refine ⟨d, l0, 1 + r, reserved, rfl, D2.ex x3, by omega, upd_same, D2.ne hl0, by decide, fun H3 m ns kx3 D3 hm hm3 nl nnd nall => ?_⟩
    have kx03 := ((kx1.trans kx2).trans (.of_ex x3)).trans kx3
    have hq3 : H3 q = some (.dK []) := ((kx2.trans (.of_ex x3)).trans kx3) _ _ hqd hq1
    have hmd := D3.ne' hm3
    have hqm : q ≠ m := fun z => by rw [z, hm3] at hq3; cases hq3
    refine ⟨m, rfl, ⟨_, SqL.of hm3⟩, ?_⟩
    refine for_it (w := walk_list (xs := ns.map V.str)) (fun i σ H' => ∃ x3 x4, σ = [some (.ref d), some (.int 4), some (.ref q), x3, x4] ∧ Kx d H H' ∧ Dice H' d ∧ H' m = some (.lst (ns.map V.str)) ∧
        ∃ (kvs : List (Key × V)) (B : Bk), H' q = some (.dK kvs) ∧ PKv K H' kvs B ∧ B.map (·.1) = ns.take i ∧ ∀ b ∈ B, okPair b.2.1 b.2.2)
      ⟨none, none, rfl, kx03, D3, hm3, [], [], hq3, ⟨⟨[], rfl, List.Perm.refl _⟩, fun _ h => nomatch h⟩, rfl, fun _ h => nomatch h⟩ (fun i σ H' _ p => ?_) (fun i x σ Ha Hb hi p y => ?_) (fun σ H' p => ?_)
    · obtain ⟨_, _, _, _, _, h, _⟩ := p
      exact SqL.of h
    · obtain ⟨rfl, hx⟩ := y
      obtain ⟨x3', x4', rfl, kx, Dd, hmH, kvs, B, hqH, hP, eB, okB⟩ := p
      rw [List.length_map] at hi
      have ex0 : x = .str ns[i] := by
        rw [List.getElem?_map, List.getElem?_eq_getElem hi] at hx
        exact (Option.some.inj hx).symm
      subst ex0
      refine ⟨_, rfl, _, rfl, d, _, rfl, Dd, by decide, by decide, fun H4 r4 kx4 D4 hr4 => ?_⟩
      refine ⟨_, _, rfl, rfl, rfl, fun l1 hl1 => ?_⟩
      have x5 := Ex.new (o := .lst (reserved.map V.str)) hl1
      refine ⟨d, l1, 1 + r4, reserved, rfl, D4.ex x5, by omega, upd_same, D4.ne hl1, by decide, fun H5 m2 as kx5 D5 hm2 hm25 al and aall => ?_⟩
      have kxH5 := (kx4.trans (.of_ex x5)).trans kx5
      refine ⟨_, rfl, d, _, rfl, D5, by decide, by decide, fun H6 r6 kx6 D6 hr6 => ?_⟩
      have hm2d := D5.ne' hm25
      have hm26 := kx6 _ _ hm2d hm25
      refine ⟨_, rfl, m2, as, rfl, SqL.of hm26, by omega, fun ys q7 pm srt hq7 => ?_⟩
      have x7 := Ex.new (o := .lst (ys.map V.str)) hq7
      refine ⟨q7, _, rfl, .inl ⟨SqL.of upd_same, fun q8 hq8 => ?_⟩⟩
      have x8 := x7.trans (Ex.new (o := .tup (ys.map V.str)) hq8)
      have h8 : (upd (upd H6 q7 (.lst (ys.map V.str))) q8 (.tup (ys.map V.str))) q8 = some (.tup (ys.map V.str)) := upd_same
      generalize upd (upd H6 q7 (.lst (ys.map V.str))) q8 (.tup (ys.map V.str)) = H8 at x8 h8 ⊢
      refine ⟨sz1000 (by show 2 ≤ 1000; decide), fun q9 hq9 => ?_⟩
      have x9 := x8.trans (Ex.new (o := .tup [V.int r6, .ref q8]) hq9)
      have h9 : (upd H8 q9 (.tup [V.int r6, .ref q8])) q9 = some (.tup [V.int r6, .ref q8]) := upd_same
      have h89 := Ex.new (o := .tup [V.int r6, .ref q8]) hq9 _ _ h8
      generalize upd H8 q9 (.tup [V.int r6, .ref q8]) = H9 at x9 h9 h89 ⊢
      have kxH9 := (kxH5.trans kx6).trans (.of_ex x9)
      have hq9' := kxH9 _ _ hqd hqH
      refine ⟨_, rfl, _, rfl, q, _, rfl, DPut.k (k := Sum.inr ns[i]) hq9' (szlt ?_), ?_⟩
      · have := hP.len
        have e2 := congrArg List.length eB
        rw [List.length_map, List.length_take] at e2
        omega
      have D9 := D6.ex x9
      refine ⟨_, _, rfl, (kx.trans kxH9).mut hq, D9.upd hqd, ?_, _, B ++ [(ns[i], r6, ys)], upd_same, ?_, ?_, ?_⟩
      · rw [upd_ne hqm.symm]; exact kxH9 _ _ hmd hmH
      · refine PKv.kt (Kt.upd hq9' (fun _ z => by cases z) (fun _ _ z => by cases z)) ?_
        refine (hP.kr (Dd.kr kxH9)).put (fun m' => ?_) ⟨q9, q8, rfl, SqT.of h9, SqT.of h89⟩
        rw [eB] at m'
        obtain ⟨j, hj, ej⟩ := List.mem_iff_getElem.mp m'
        rw [List.getElem_take] at ej
        have := (List.getElem_inj nnd).mp ej
        rw [List.length_take] at hj
        omega
      · rw [List.map_append, eB, List.take_add_one, List.getElem?_eq_getElem hi]
        rfl
      · intro b hb
        rcases List.mem_append.mp hb with hb | hb
        · exact okB b hb
        · rw [List.mem_singleton.mp hb]
          have yl : ys.length = 1 + r4 := by rw [pm.length_eq, al]
          exact ⟨by show r6 ≤ 2; omega, by show 1 ≤ ys.length; omega, by show ys.length ≤ 3; omega, fun y hy => aall y (pm.mem_iff.mp hy), asc_sorted srt (pm.symm.nodup and)⟩
    · obtain ⟨x3', x4', rfl, kx, Dd, hmH, kvs, B, hqH, hP, eB, okB⟩ := p
      rw [List.length_map, List.take_length] at eB
      have bl : B.length = 1 + r := by rw [← nl, ← eB, List.length_map]
      refine ⟨_, rfl, ?_⟩
      refine k _ q kvs B kx Dd hq hqH hP ⟨by omega, by omega, by rw [eB]; exact nnd, fun b hb => ?_, okB⟩
      exact nall b.1 (by rw [← eB]; exact List.mem_map.mpr ⟨b, hb, rfl⟩)
abbrev N_loutcomes : List Str := ["_law_pairs_here", "_law_command"]
theorem sc_loutcomes : FnScope N_loutcomes ["_law_pairs_here", "_law_command"] (defScope (topS 50)) := ⟨rfl, rfl, rfl, by decide +kernel, rfl, by decide +kernel, by decide +kernel⟩
theorem ok_loutcomes {P : Program} {w : World} {K : PySem.W.Frag} {mg : Str → Option Value} {base : Heap} {CB CS CI : Addr} (T : Txt K mg CB CS CI) : Cl P w K mg base CX0 1 "_law_outcomes" ["_law_pairs_here", "_law_command"] (sp_loutcomes K) := T.f_outcomes.cl fun f fd F => by
  refine F.ok sc_loutcomes (fun vs H Q E h => ?_) (fun cdv A outer s H vs Q E hr h => ?_)
  · obtain ⟨pd, B, c, t, ys, rfl, _⟩ := h
    rfl
  · obtain ⟨pd, B, c, t, ys, rfl, ⟨kvs, hr1, hP⟩, ok, hc, k⟩ := h
    have hu := hu_of hr
    refine ⟨_, (pss_one (ps_ret (pe_callB cr_sortedS (by rfl) T.zsorted bt_sorted (pa_cons (pe_op op_cat (pe_lst (pa_cons pe_str pa_nil)) (pe_callTy call_list_of (by rfl) T.zlist bt_list (pa_cons (pe_ix ix_tup (pe_dget hu (pv 0) (pv 1) (fun _ _ => rfl)) pe_int (fun _ _ => rfl)) pa_nil))) pa_nil)))), ?_⟩
    obtain ⟨v, hv, p, a, rfl, hp, ha⟩ := hP.get _ hc
    have b3 := (ok.pr _ hc).y3
    refine ⟨sz1000 (by decide), fun l0 hl0 => ?_⟩
    have x1 := Ex.new (o := .lst [V.str "failed"]) hl0
    have h1 : (upd H l0 (.lst [V.str "failed"])) l0 = some (.lst [V.str "failed"]) := upd_same
    generalize upd H l0 (.lst [V.str "failed"]) = H1 at x1 h1 ⊢
    refine ⟨_, rfl, _, rfl, pd, _, rfl, dgetS (ex_rd x1 hr1) hv, p, _, (1 : Int), _, rfl, rfl, ex_t x1 hp, rfl, a, _, rfl, .inr (ex_t x1 ha), fun l2 hl2 => ?_⟩
    have x2 := Ex.new (o := .lst (ys.map V.str)) hl2
    refine ⟨l0, l2, _, _, rfl, rfl, x2 _ _ h1, upd_same, sz1000 (by rw [List.length_map]; show 1 + ys.length ≤ 1000; have : ys.length ≤ 3 := b3; omega), fun l3 hl3 => ?_⟩
    have x3 := Ex.new (o := .lst ([V.str "failed"] ++ ys.map V.str)) hl3
    refine ⟨l3, ("failed" : Str) :: ys, rfl, SqL.of upd_same, by rw [List.length_cons]; have : ys.length ≤ 3 := b3; omega, fun zs q pm _ hq => ?_⟩
    have xx := (x1.trans x2).trans x3
    exact k _ q zs (xx.trans (Ex.new hq)) (fresh_back xx hq) upd_same pm
end Sk
namespace Sk
open PySem L2 KwX Evl RZ
def sp_entries (K : PySem.W.Frag) : Sp := fun vs H Q _ => ∃ (d pd l : Addr) (B : Bk) (S : List Str), vs = [.ref d, .ref pd, .ref l] ∧ Dice H d ∧ PDic K H pd B ∧ BkOk B ∧ H l = some (.lst (S.map V.str)) ∧ l ≠ d ∧ 0 < S.length ∧ S.length ≤ 12 ∧
  ∀ (H' : Hp) (q : Addr) (kvs : List (Key × V)) (es : Ent) (kp : Str), Kx d H H' → Dice H' d → H q = none → H' q = some (.dK kvs) → EDv K H' kvs es kp → EnOk B S es kp → Q (.ref q) H'
theorem kept_ne {B : Bk} (ok : BkOk B) {ns : List Str} (pm : ns.Perm (B.map (·.1))) : (ns ++ [("kept" : Str)]).Nodup := by
  refine List.nodup_append.mpr ⟨pm.symm.nodup ok.nd, by simp, fun a ha b hb e => ?_⟩
  rw [List.mem_singleton.mp hb] at e
  subst e
  exact ok.nk (pm.mem_iff.mp ha) rfl
theorem valV_put_ne {kvs : List (Key × V)} {a b : Str} {v : V} (h : a ≠ b) : valV (putK kvs (Sum.inr b) v) (Sum.inr a : Key) = valV kvs (Sum.inr a : Key) := by
  rw [valV_put, if_neg (fun z => h (Sum.inr.inj z))]
theorem valV_put_eq {kvs : List (Key × V)} {k : Key} {v : V} : valV (putK kvs k v) k = some v := by rw [valV_put, if_pos rfl]
theorem putK_len0 (kvs : List (Key × V)) (k : Key) (v : V) : (putK kvs k v).length ≤ kvs.length + 1 := by
  unfold putK
  split
  · rw [List.length_map]; omega
  · rw [List.length_append]; exact Nat.le_refl _
abbrev N_entries : List Str := ["_law_dice_here", "_law_pairs_here", "_law_states", "_law_found", "_law_word_here"]
theorem sc_entries : FnScope N_entries ["_law_dice_here", "_law_pairs_here", "_law_states"] (defScope (topS 51)) := ⟨rfl, rfl, rfl, by decide +kernel, rfl, by decide +kernel, by decide +kernel⟩
theorem ok_entries {P : Program} {w : World} {K : PySem.W.Frag} {mg : Str → Option Value} {base : Heap} {CB CS CI : Addr} (T : Txt K mg CB CS CI) : Cl P w K mg base CX0 3 "_law_entries" ["_law_dice_here", "_law_pairs_here", "_law_states"] (sp_entries K) := T.f_entries.cl fun f fd F => by
  refine F.ok sc_entries (fun vs H Q E h => ?_) (fun cdv A outer s H vs Q E hr h => ?_)
  · obtain ⟨d, pd, l, B, S, rfl, _⟩ := h
    rfl
  · obtain ⟨d, pd, l, B, S, rfl, hD, ⟨pk, hr1, hP⟩, ok, hl, hld, hS0, hS12, k⟩ := h
    have hu := hu_of hr
    refine ⟨_, (pss_cons (ps_set (i := 3) sc_entries.nd rfl (Or.inl rfl) pe_dnewK)
      (pss_cons (ps_for PassesOwn.never rfl (pi_list (pc0 (ok_mixed T) hr (pa_cons (pv 0) (pa_cons (pe_op op_cat (pe_callB (call_sortedD rfl) (by rfl) T.zsorted bt_sorted (pa_cons (pv 1) pa_nil)) (pe_lst (pa_cons pe_str pa_nil))) pa_nil)))) (pg_name (i := 4) sc_entries.nd rfl (Or.inl rfl))
      (pss_cons (ps_dput hu (pv 3) (pv 4) (pc0 (ok_one_of T) hr (pa_cons (pv 0) (pa_cons (pv 2) pa_nil))) rfl)
      (pss_one (ps_if (pt_cmpR op_ne (pv 4) pe_str (nomark _)) (pss_one (ps_dput hu (pv 3) (pv 4) (pe_tup (pa_cons (pc0 (ok_one_of T) hr (pa_cons (pv 0) (pa_cons (pc0 (ok_loutcomes T) hr (pa_cons (pv 1) (pa_cons (pv 4) pa_nil))) pa_nil))) (pa_cons (pe_dget hu (pv 3) (pv 4) (fun _ _ => rfl)) pa_nil))) rfl)) pss_nil))))
      (pss_one (ps_ret (pv 3))))), ?_⟩
    intro q hq
    have hqd := hD.ne hq
    have hql : l ≠ q := fun z => by rw [z, hq] at hl; cases hl
    have x1 := Ex.new (o := .dK []) hq
    have D1 := hD.ex x1
    have kx1 : Kx d H (upd H q (.dK [])) := .of_ex x1
    have hq1 : (upd H q (.dK [])) q = some (.dK []) := upd_same
    have hl1 := x1 _ _ hl
    have hr2 := ex_rd x1 hr1
    generalize upd H q (.dK []) = H1 at x1 D1 kx1 hq1 hl1 hr2 ⊢
    have pl := hP.len
    have b4 := ok.n4
    obtain ⟨ns, en, pn⟩ := hP.ks
    have nl : ns.length = pk.length := by
      have := congrArg List.length en
      simpa using this.symm
    refine ⟨_, rfl, _, rfl, pd, pk, ns, rfl, hr2, en, by omega, fun ys m pm _ hm => ?_⟩
    have x2 := Ex.new (o := .lst (ys.map V.str)) hm
    have h2 : (upd H1 m (.lst (ys.map V.str))) m = some (.lst (ys.map V.str)) := upd_same
    generalize upd H1 m (.lst (ys.map V.str)) = H2 at x2 h2 ⊢
    refine ⟨sz1000 (by show 1 ≤ 1000; decide), fun m2 hm2 => ?_⟩
    have x3 := x2.trans (Ex.new (o := .lst [V.str "kept"]) hm2)
    have h3 := Ex.new (o := .lst [V.str "kept"]) hm2 _ _ h2
    have h3' : (upd H2 m2 (.lst [V.str "kept"])) m2 = some (.lst [V.str "kept"]) := upd_same
    generalize upd H2 m2 (.lst [V.str "kept"]) = H3 at x3 h3 h3' ⊢
    have yl : ys.length = ns.length := pm.length_eq
    refine ⟨m, m2, _, _, rfl, rfl, h3, h3', sz1000 (by rw [List.length_map]; show ys.length + 1 ≤ 1000; omega), fun m3 hm3 => ?_⟩
    have el : ys.map V.str ++ [V.str "kept"] = (ys ++ [("kept" : Str)]).map V.str := by rw [List.map_append]; rfl
    rw [el]
    have x4 := x3.trans (Ex.new (o := .lst ((ys ++ [("kept" : Str)]).map V.str)) hm3)
    have h4 : (upd H3 m3 (.lst ((ys ++ [("kept" : Str)]).map V.str))) m3 = some (.lst ((ys ++ [("kept" : Str)]).map V.str)) := upd_same
    generalize upd H3 m3 (.lst ((ys ++ [("kept" : Str)]).map V.str)) = H4 at x4 h4 ⊢
    have D4 := D1.ex x4
    refine ⟨d, m3, ys ++ [("kept" : Str)], rfl, D4, h4, D4.ne' h4, by rw [List.length_append]; show ys.length + 1 ≤ 1000; omega, fun H5 w5 ws kx5 D5 hw5 hw55 pw => ?_⟩
    have pB : ys.Perm (B.map (·.1)) := pm.trans pn
    have wnd : ws.Nodup := pw.symm.nodup (kept_ne ok pB)
    have wl : ws.length = B.length + 1 := by rw [pw.length_eq, List.length_append]; show ys.length + 1 = _; omega
    have kx05 := (kx1.trans (.of_ex x4)).trans kx5
    have hq5 := ((Kx.of_ex x4).trans kx5) _ _ hqd hq1
    have hwd := D5.ne' hw55
    have hqw : q ≠ w5 := fun z => by rw [z, hw55] at hq5; cases hq5
    refine ⟨w5, rfl, ⟨_, SqL.of hw55⟩, ?_⟩
    refine for_it (w := walk_list (xs := ws.map V.str)) (fun i σ H' => ∃ x4, σ = [some (.ref d), some (.ref pd), some (.ref l), some (.ref q), x4] ∧ Kx d H H' ∧ Dice H' d ∧ H' w5 = some (.lst (ws.map V.str)) ∧
        ∃ (kvs : List (Key × V)) (es : Ent), H' q = some (.dK kvs) ∧ kvs.map (·.1) = (ws.take i).map Sum.inr ∧ es.map (·.1) = (ws.take i).filter (fun (s : Str) => decide (s ≠ ("kept" : Str))) ∧
          (∀ e ∈ es, (∃ v, valV kvs (Sum.inr e.1 : Key) = some v ∧ EntV K H' v e.2.1 e.2.2) ∧ e.2.2 ∈ S ∧ ∃ t ys, (e.1, t, ys) ∈ B ∧ e.2.1 ∈ ("failed" : Str) :: ys) ∧
          (("kept" : Str) ∈ ws.take i → ∃ kp ∈ S, valV kvs (Sum.inr "kept" : Key) = some (.str kp)))
      ⟨none, rfl, kx05, D5, hw55, [], [], hq5, rfl, rfl, (fun _ h => nomatch h), (fun h => nomatch h)⟩ (fun i σ H' _ p => ?_) (fun i x σ Ha Hb hi p y => ?_) (fun σ H' p => ?_)
    · obtain ⟨_, _, _, _, h, _⟩ := p
      exact SqL.of h
    · obtain ⟨rfl, hx⟩ := y
      obtain ⟨x4', rfl, kx, Dd, hwH, kvs, es, hqH, ek, ee, hes, hk⟩ := p
      rw [List.length_map] at hi
      have ex0 : x = .str ws[i] := by
        rw [List.getElem?_map, List.getElem?_eq_getElem hi] at hx
        exact (Option.some.inj hx).symm
      subst ex0
      have hlH := kx _ _ hld hl
      refine ⟨_, rfl, _, rfl, d, l, _, rfl, Dd, hlH, hld, by rw [List.length_map]; exact hS0, by rw [List.length_map]; omega, fun H6 sx kx6 D6 hsx => ?_⟩
      obtain ⟨s1, hs1, rfl⟩ := List.mem_map.mp hsx
      have hq6 := kx6 _ _ hqd hqH
      have fresh : ws[i] ∉ ws.take i := fun m' => by
        obtain ⟨j, hj, ej⟩ := List.mem_iff_getElem.mp m'
        rw [List.getElem_take] at ej
        have := (List.getElem_inj wnd).mp ej
        rw [List.length_take] at hj
        omega
      have hno : valV kvs (Sum.inr ws[i] : Key) = none := valV_none (by
        rw [ek]
        intro m'
        obtain ⟨x, hx, ex⟩ := List.mem_map.mp m'
        cases ex
        exact fresh hx)
      have kvl : kvs.length ≤ 5 := by
        have e2 := congrArg List.length ek
        rw [List.length_map, List.length_map, List.length_take] at e2
        omega
      refine ⟨_, rfl, _, rfl, q, _, rfl, DPut.k (k := Sum.inr ws[i]) hq6 (szlt (by omega)), ?_⟩
      have kx7 := (kx.trans kx6).mut (o := .dK (putK kvs (Sum.inr ws[i]) (.str s1))) hq
      have D7 := D6.upd (u := .dK (putK kvs (Sum.inr ws[i]) (.str s1))) hqd
      have h7 : (upd H6 q (.dK (putK kvs (Sum.inr ws[i]) (.str s1)))) q = some (.dK (putK kvs (Sum.inr ws[i]) (.str s1))) := upd_same
      have hw7 : (upd H6 q (.dK (putK kvs (Sum.inr ws[i]) (.str s1)))) w5 = some (.lst (ws.map V.str)) := by rw [upd_ne hqw.symm]; exact kx6 _ _ hwd hwH
      have kt7 : Kt K Hb (upd H6 q (.dK (putK kvs (Sum.inr ws[i]) (.str s1)))) := fun a xs h => Kt.upd (K := K) hq6 (fun _ z => by cases z) (fun _ _ z => by cases z) a xs ((Dd.kr kx6).tup h)
      generalize upd H6 q (.dK (putK kvs (Sum.inr ws[i]) (.str s1))) = H7 at kx7 D7 h7 hw7 kt7 ⊢
      have ek2 : (putK kvs (Sum.inr ws[i]) (.str s1)).map (·.1) = (ws.take (i + 1)).map Sum.inr := by
        rw [keys_new _ hno, ek, List.take_add_one, List.map_append, List.getElem?_eq_getElem hi]
        rfl
      refine ⟨_, rfl, rfl, _, rfl, ?_⟩
      have ne_of_es : ∀ e ∈ es, e.1 ≠ ws[i] := fun e he z => by
        have : e.1 ∈ es.map (·.1) := List.mem_map.mpr ⟨e, he, rfl⟩
        rw [ee] at this
        exact fresh (z ▸ (List.mem_filter.mp this).1)
      by_cases hkk : ws[i] = "kept"
      · refine iteNT (by rw [hkk]) ?_
        refine ⟨_, rfl, kx7, D7, hw7, _, es, h7, ek2, ?_, fun e he => ?_, fun _ => ⟨s1, hs1, ?_⟩⟩
        · rw [List.take_add_one, List.getElem?_eq_getElem hi, List.filter_append, ← ee]
          simp [hkk]
        · obtain ⟨⟨v, hv, hE⟩, rest⟩ := hes e he
          obtain ⟨p0, e0, hp0⟩ := hE
          exact ⟨⟨v, by rw [valV_put_ne (ne_of_es e he)]; exact hv, p0, e0, kt7 _ _ hp0⟩, rest⟩
        · rw [hkk]; exact valV_put_eq
      · refine iteNF (fun z => hkk (V.str.inj z)) ?_
        have hwB : ws[i] ∈ B.map (·.1) := by
          have := pw.mem_iff.mp (List.getElem_mem hi)
          rcases List.mem_append.mp this with h | h
          · exact pB.mem_iff.mp h
          · exact absurd (List.mem_singleton.mp h) hkk
        obtain ⟨b, hb, eb⟩ := List.mem_map.mp hwB
        have eb : b.1 = ws[i] := eb
        have hP7 : PDic K H7 pd B := ⟨pk, (hD.kr kx7).dic hr1, hP.kr (hD.kr kx7)⟩
        have hm0 : (ws[i], b.2.1, b.2.2) ∈ B := by rw [← eb]; exact hb
        refine ⟨_, rfl, _, rfl, _, rfl, pd, B, ws[i], b.2.1, b.2.2, rfl, hP7, ok, hm0, fun H8 q8 zs e8 hq8 h8 pz => ?_⟩
        have D8 := D7.ex e8
        have zl : zs.length = b.2.2.length + 1 := by rw [pz.length_eq]; rfl
        have y3 := (ok.pr b hb).y3
        refine ⟨d, q8, _, rfl, D8, h8, D8.ne' h8, by rw [List.length_map]; omega, by rw [List.length_map]; omega, fun H9 ox kx9 D9 hox => ?_⟩
        obtain ⟨o1, ho1, rfl⟩ := List.mem_map.mp hox
        have hq9 := kx9 _ _ hqd (e8 _ _ h7)
        refine ⟨_, rfl, _, rfl, q, _, rfl, dgetS (.inl hq9) valV_put_eq, sz1000 (by show 2 ≤ 1000; decide), fun t hnt => ?_⟩
        have xt := Ex.new (o := .tup [V.str o1, .str s1]) hnt
        have ht : (upd H9 t (.tup [V.str o1, .str s1])) t = some (.tup [V.str o1, .str s1]) := upd_same
        generalize upd H9 t (.tup [V.str o1, .str s1]) = H10 at xt ht ⊢
        have hq10 := xt _ _ hq9
        refine ⟨_, rfl, _, rfl, q, _, rfl, DPut.k (k := Sum.inr ws[i]) hq10 (szlt (by have := putK_len0 kvs (Sum.inr ws[i]) (.str s1); omega)), ?_⟩
        have kx10 : Kx d H7 H10 := ((Kx.of_ex e8).trans kx9).trans (.of_ex xt)
        have kt10 : Kt K H7 (upd H10 q (.dK (putK (putK kvs (Sum.inr ws[i]) (.str s1)) (Sum.inr ws[i]) (.ref t)))) := fun a xs h => Kt.upd (K := K) hq10 (fun _ z => by cases z) (fun _ _ z => by cases z) a xs ((D7.kr kx10).tup h)
        refine ⟨_, rfl, (kx7.trans kx10).mut hq, (D9.ex xt).upd hqd, by rw [upd_ne hqw.symm]; exact kx10 _ _ hwd hw7, _, es ++ [(ws[i], o1, s1)], upd_same, ?_, ?_, fun e he => ?_, fun hk0 => ?_⟩
        · rw [keys_old _ (by rw [valV_put_eq]; rfl), ek2]
        · rw [List.take_add_one, List.getElem?_eq_getElem hi, List.filter_append, ← ee, List.map_append]
          simp [hkk]
        · rcases List.mem_append.mp he with he | he
          · obtain ⟨⟨v, hv, hE⟩, rest⟩ := hes e he
            obtain ⟨p0, e0, hp0⟩ := hE
            exact ⟨⟨v, by rw [valV_put_ne (ne_of_es e he), valV_put_ne (ne_of_es e he)]; exact hv, p0, e0, kt10 _ _ (kt7 _ _ hp0)⟩, rest⟩
          · rw [List.mem_singleton.mp he]
            refine ⟨⟨_, valV_put_eq, t, rfl, SqT.of ?_⟩, hs1, b.2.1, b.2.2, hm0, pz.mem_iff.mp ho1⟩
            have : t ≠ q := fun z => by rw [z, hq10] at ht; cases ht
            rw [upd_ne this]; exact ht
        · rw [List.take_add_one, List.getElem?_eq_getElem hi] at hk0
          rcases List.mem_append.mp hk0 with h | h
          · obtain ⟨kp, hkp, hv⟩ := hk h
            exact ⟨kp, hkp, by rw [valV_put_ne (Ne.symm hkk), valV_put_ne (Ne.symm hkk)]; exact hv⟩
          · exact absurd (by simpa using h : ("kept" : Str) = ws[i]).symm hkk
    · obtain ⟨x4', rfl, kx, Dd, hwH, kvs, es, hqH, ek, ee, hes, hk⟩ := p
      rw [List.length_map, List.take_length] at ek ee hk
      obtain ⟨kp, hkp, hkv⟩ := hk (pw.mem_iff.mpr (by simp))
      have pe : (es.map (·.1)).Perm (B.map (·.1)) := by
        rw [ee]
        refine (pw.filter _).trans ?_
        rw [List.filter_append]
        have h1 : ys.filter (fun (s : Str) => decide (s ≠ ("kept" : Str))) = ys := List.filter_eq_self.mpr fun a ha => decide_eq_true (ok.nk (pB.mem_iff.mp ha))
        rw [h1]
        simp only [List.filter_cons, List.filter_nil]
        simpa using pB
      refine ⟨_, rfl, ?_⟩
      refine k _ q kvs es kp kx Dd hq hqH ⟨⟨ws, ek, ?_⟩, fun e he => (hes e he).1, hkv⟩ ⟨pe, hkp, fun e he => (hes e he).2⟩
      exact pw.trans ((pB.trans pe.symm).append_right _)
end Sk
namespace Sk
open PySem L2 KwX Evl RZ
def sp_table (K : PySem.W.Frag) : Sp := fun vs H Q _ => ∃ (d pd : Addr) (B : Bk) (most : Nat), vs = [.ref d, .ref pd, .int (most : Int)] ∧ Dice H d ∧ PDic K H pd B ∧ BkOk B ∧ 0 < most ∧ most ≤ 12 ∧
  ∀ (H' : Hp) (q : Addr) (tk : List (Key × V)) (TT : Tb), Kx d H H' → Dice H' d → H q = none → H' q = some (.dK tk) → TDv K H' tk TT → TbOk B TT → Q (.ref q) H'
theorem reserved_nm : ∀ s ∈ reserved, isNm s = true := by decide +kernel
theorem mergeK_app : ∀ (more kvs : List (Key × V)), ((kvs ++ more).map (·.1)).Nodup → mergeK kvs more = kvs ++ more
  | [], kvs, _ => by unfold mergeK; simp
  | p :: r, kvs, h => by
    have hn : valV kvs p.1 = none := valV_none (fun m => by
      rw [List.map_append, List.nodup_append] at h
      exact h.2.2 p.1 m p.1 (by simp) rfl)
    have e : mergeK kvs (p :: r) = mergeK (putK kvs p.1 p.2) r := rfl
    have eq : kvs ++ p :: r = (kvs ++ [p]) ++ r := by simp
    rw [e, putK_new _ hn, eq, mergeK_app r _ (by rw [← eq]; exact h)]
theorem ix0 {n : Nat} (h : 0 < n) : ixN n 0 = some 0 := by
  unfold ixN
  rw [if_pos (by decide), if_pos (by omega)]
  rfl
theorem cut_one {xs : List Str} (h : 1 ≤ xs.length) : cutV (xs.map V.str) none (some 1) = (xs.take 1).map V.str := by
  unfold cutV
  have e : HT.sIx (xs.map V.str).length (xs.map V.str).length (some 1) = 1 := by
    have := HT.sIx_nat (xs.map V.str).length (xs.map V.str).length 1
    rw [List.length_map, Nat.min_eq_left h] at this
    rw [List.length_map]; exact this
  rw [e, HT.sIx_none, List.drop_zero, Nat.sub_zero, List.map_take]
theorem cut_rest {xs : List Str} (h : 1 ≤ xs.length) : cutV (xs.map V.str) (some 1) none = (xs.drop 1).map V.str := by
  rw [cutV_tail (by rw [List.length_map]; exact h), List.map_drop]
abbrev N_table : List Str := ["_law_dice_here", "_law_pairs_here", "_law_most", "_law_states", "_law_spare", "_law_one", "_law_state_here"]
theorem sc_table : FnScope N_table ["_law_dice_here", "_law_pairs_here", "_law_most"] (defScope (topS 52)) := ⟨rfl, rfl, rfl, by decide +kernel, rfl, by decide +kernel, by decide +kernel⟩
theorem ok_table {P : Program} {w : World} {K : PySem.W.Frag} {mg : Str → Option Value} {base : Heap} {CB CS CI : Addr} (T : Txt K mg CB CS CI) : Cl P w K mg base CX0 6 "_law_table" ["_law_dice_here", "_law_pairs_here", "_law_most"] (sp_table K) := T.f_table.cl fun f fd F => by
  refine F.ok sc_table (fun vs H Q E h => ?_) (fun cdv A outer s H vs Q E hr h => ?_)
  · obtain ⟨d, pd, B, most, rfl, _⟩ := h
    rfl
  · obtain ⟨d, pd, B, most, rfl, hDi, hPd, ok, m1, m12, k⟩ := h
    have hu := hu_of hr
    refine ⟨_, (pss_cons (ps_set (i := 3) sc_table.nd rfl (Or.inr rfl) (pc0 (ok_words T) hr (pa_cons (pv 0) (pa_cons (pe_op op_add pe_int (pc0 (ok_roll T) hr (pa_cons (pv 0) (pa_cons (pv 2) pa_nil)))) (pa_cons (pe_lst pa_nil) pa_nil)))))
      (pss_cons (ps_if (pt_cmpR op_eq (pc0 (ok_roll T) hr (pa_cons (pv 0) (pa_cons pe_int pa_nil))) pe_int (nomark _)) (pss_cons (ps_setLc (tt := tTest (tOp (rIn K true) (tVar 5) (tSl (rSlL K) (tVar 3) (tPart (tC (.int 1))) tNoPart))) (i := 4) (own := [("_law_one", 5)]) (g := gName 5) rfl sc_table.nd rfl rfl (sw_true rfl rfl rfl (by decide +kernel)) (pi_list (pe_op op_cat (pc00 (ok_reserved T) hr) (pe_slice sl_list (pv 3) po_none (po_some pe_int)))) (blkOk_by (N := N_table) (sc := defScope (topS 52)) (by decide +kernel)) (fun _ _ _ _ _ => (pg_name (i := 5) sc_table.nd rfl (Or.inl rfl))) (fun _ _ _ _ _ => (pts_one (pt_cmpR op_notIn_seq (pv 5) (pe_slice sl_list (pv 3) (po_some pe_int) po_none) (by rfl)))) (fun _ _ _ _ _ => (pv 5)))
      (pss_one (ps_asg (pc0 (ok_one_of T) hr (pa_cons (pv 0) (pa_cons (pv 4) pa_nil))) (pg_sub (pv 3) pe_int set_list)))) pss_nil)
      (pss_one (ps_ret (pe_callTy (call_dictP rfl) (by rfl) T.zdict bt_dict (pa_cons (pe_lc (own := [("_law_state_here", 6)]) (g := gName 6) (tt := tYes) rfl sc_table.nd (pi_list (pv 3)) (blkOk_by (N := N_table) (sc := defScope (topS 52)) (by decide +kernel)) (fun _ _ _ _ _ => (pg_name (i := 6) sc_table.nd rfl (Or.inl rfl))) (fun _ _ _ _ _ => pts_nil) (fun _ _ _ _ _ => (pe_tup (pa_cons (pv 6) (pa_cons (pc0 (ok_entries T) hr (pa_cons (pv 0) (pa_cons (pv 1) (pa_cons (pv 3) pa_nil)))) pa_nil))))) pa_nil)))))), ?_⟩
    refine ⟨_, rfl, _, rfl, _, rfl, d, _, rfl, hDi, by omega, by omega, fun H1 r kx1 D1 hr1 => ?_⟩
    refine ⟨_, _, rfl, rfl, sz1000 (by show 0 ≤ 1000; decide), fun l0 hl0 => ?_⟩
    have x2 := Ex.new (o := .lst []) hl0
    refine ⟨d, l0, 1 + r, [], rfl, D1.ex x2, by omega, upd_same, D1.ne hl0, by decide, fun H3 m ns kx3 D3 hm hm3 nl nnd nall => ?_⟩
    have kx03 := (kx1.trans (.of_ex x2)).trans kx3
    have hm0 : H m = none := hDi.free D1 kx1 (fresh_back x2 hm)
    have hmd := D3.ne' hm3
    refine ⟨_, rfl, d, _, rfl, D3, by decide, by decide, fun H4 r4 kx4 D4 hr4 => ?_⟩
    have kx04 := kx03.trans kx4
    have hm4 := kx4 _ _ hmd hm3
    refine ⟨rfl, _, rfl, ?_⟩
    refine iteD (fun _ => ?_) (fun _ => ?_)
    · refine ⟨rfl, fun p0 hp0 => ?_⟩
      obtain ⟨n0, nt, rfl⟩ : ∃ n0 nt, ns = n0 :: nt := by
        cases ns with
        | nil => simp at nl; omega
        | cons a b => exact ⟨a, b, rfl⟩
      have ntl : nt.length = r := by rw [List.length_cons] at nl; omega
      have x5 := Ex.new (o := .lst (reserved.map V.str)) hp0
      have h5 : (upd H4 p0 (.lst (reserved.map V.str))) p0 = some (.lst (reserved.map V.str)) := upd_same
      generalize upd H4 p0 (.lst (reserved.map V.str)) = H5 at x5 h5 ⊢
      refine ⟨_, rfl, _, rfl, m, _, rfl, SqL.of (x5 _ _ hm4), fun p1 hp1 => ?_⟩
      rw [cut_one (by simp)]
      have x6 := Ex.new (o := .lst (((n0 :: nt).take 1).map V.str)) hp1
      refine ⟨p0, p1, _, _, rfl, rfl, x6 _ _ h5, upd_same, sz1000 (by show 4 + 1 ≤ 1000; decide), fun p2 hp2 => ?_⟩
      have el : reserved.map V.str ++ ((n0 :: nt).take 1).map V.str = (reserved ++ [n0]).map V.str := by rw [List.map_append]; rfl
      rw [el]
      have x7 := (x5.trans x6).trans (Ex.new (o := .lst ((reserved ++ [n0]).map V.str)) hp2)
      have h7 : (upd (upd H5 p1 (.lst (((n0 :: nt).take 1).map V.str))) p2 (.lst ((reserved ++ [n0]).map V.str))) p2 = some (.lst ((reserved ++ [n0]).map V.str)) := upd_same
      generalize upd (upd H5 p1 (.lst (((n0 :: nt).take 1).map V.str))) p2 (.lst ((reserved ++ [n0]).map V.str)) = H7 at x7 h7 ⊢
      have hm7 := x7 _ _ hm4
      refine ⟨p2, rfl, ⟨_, SqL.of h7⟩, fun D hD => ?_⟩
      have nd0 := List.nodup_cons.mp nnd
      have wl : ((reserved ++ [n0]).map V.str).length = (reserved ++ [n0]).length := List.length_map _
      refine lc_filtN (w := walk_list (xs := (reserved ++ [n0]).map V.str)) hD (by show 5 ≤ 1000; decide) (fun _ => rfl) (fun H8 e8 => ex_l e8 (SqL.of h7)) (fun i => decide ((reserved ++ [n0]).getD i Str.empty ∉ nt)) (fun i => .str ((reserved ++ [n0]).getD i Str.empty)) (fun i x Ha Hb hi e y => ?_) (fun H8 e8 hl8 => ?_)
      · obtain ⟨rfl, hx⟩ := y
        rw [wl] at hi
        have ex0 : x = .str ((reserved ++ [n0]).getD i Str.empty) := by
          rw [List.getElem?_map, List.getElem?_eq_getElem hi] at hx
          rw [getD_lt hi]
          exact (Option.some.inj hx).symm
        subst ex0
        refine ⟨Ex.refl _, fun H9 e9 Q9 q9 => ?_, fun _ H9 e9 Q9 q9 => ⟨_, rfl, q9 H9 (Ex.refl _)⟩⟩
        refine ⟨_, rfl, _, rfl, _, rfl, m, _, rfl, SqL.of (e9 _ _ (e _ _ hm7)), fun p3 hp3 => ?_⟩
        rw [cut_rest (by simp)]
        refine ⟨p3, _, rfl, .inl (SqL.of upd_same), rfl, flat_strs _, _, rfl, ?_⟩
        have := q9 _ (Ex.new (o := .lst (((n0 :: nt).drop 1).map V.str)) hp3)
        rw [decide_not] at this
        show Q9 (!inV _ _) _
        rw [inV_str]
        exact this
      · have hm8 := e8 _ _ hm7
        have kx08 := kx04.trans (.of_ex (x7.trans e8))
        have D8 := D4.ex (x7.trans e8)
        refine ⟨_, rfl, _, rfl, d, D, _, rfl, D8, hl8, ?_, ?_, ?_, fun H9 x kx9 D9 hx => ?_⟩
        · rintro rfl
          obtain ⟨_, _, _, q⟩ := D4.ex x7
          rw [hD] at q; cases q
        · have : (4 : Nat) ∈ (List.range ((reserved ++ [n0]).map V.str).length).filter fun i => decide ((reserved ++ [n0]).getD i Str.empty ∉ nt) :=
            List.mem_filter.mpr ⟨List.mem_range.mpr (by show 4 < 5; decide), decide_eq_true nd0.1⟩
          rw [List.length_map]
          exact List.length_pos_of_mem this
        · rw [List.length_map]
          have := List.length_filter_le (fun i => decide ((reserved ++ [n0]).getD i Str.empty ∉ nt)) (List.range ((reserved ++ [n0]).map V.str).length)
          rw [List.length_range] at this
          exact Nat.le_trans this (by show 5 ≤ 1000; decide)
        · obtain ⟨i, hi, rfl⟩ := List.mem_map.mp hx
          obtain ⟨hi1, hi2⟩ := List.mem_filter.mp hi
          have hi1 := List.mem_range.mp hi1
          rw [wl] at hi1
          have hi2 := of_decide_eq_true hi2
          have hmem : (reserved ++ [n0]).getD i Str.empty ∈ reserved ++ [n0] := by rw [getD_lt hi1]; exact List.getElem_mem hi1
          have s0n : isNm ((reserved ++ [n0]).getD i Str.empty) = true := by
            rcases List.mem_append.mp hmem with h | h
            · exact reserved_nm _ h
            · rw [List.mem_singleton.mp h]; exact (nall n0 (List.mem_cons_self ..)).1
          generalize (reserved ++ [n0]).getD i Str.empty = s0 at hi2 s0n ⊢
          have hm9 := kx9 _ _ hmd hm8
          refine ⟨_, rfl, m, _, (0 : Int), 0, rfl, rfl, hm9, ix0 (by simp), ?_⟩
          have kx5 : Kx d H (upd H9 m (.lst (((n0 :: nt).map V.str).set 0 (.str s0)))) := (kx08.trans kx9).mut hm0
          have D5 : Dice (upd H9 m (.lst (((n0 :: nt).map V.str).set 0 (.str s0)))) d := D9.upd hmd
          have hm5 : (upd H9 m (.lst (((n0 :: nt).map V.str).set 0 (.str s0)))) m = some (.lst ((s0 :: nt).map V.str)) := upd_same
          generalize upd H9 m (.lst (((n0 :: nt).map V.str).set 0 (.str s0))) = H5 at kx5 D5 hm5 ⊢
          have snd : (s0 :: nt).Nodup := List.nodup_cons.mpr ⟨hi2, nd0.2⟩
          have sall : ∀ s ∈ s0 :: nt, isNm s = true := fun s hs => by
            rcases List.mem_cons.mp hs with h | h
            · rw [h]; exact s0n
            · exact (nall s (List.mem_cons_of_mem _ h)).1
          have sl : (s0 :: nt).length = 1 + r := by rw [List.length_cons, ntl]; omega
          generalize s0 :: nt = ss at hm5 snd sall sl ⊢
          refine ⟨_, rfl, m, rfl, ⟨_, SqL.of hm5⟩, fun D hD => ?_⟩
          have hD0 := hDi.free D5 kx5 hD
          have hDd := D5.ne hD
          have hDm : D ≠ m := fun z => by rw [z, hm5] at hD; cases hD
          refine lc_it (w := walk_list (xs := ss.map V.str)) (fun i H' => Kx d H H' ∧ Dice H' d ∧ H' m = some (.lst (ss.map V.str)) ∧ ∃ (ps : List Addr) (kvs : List (Key × V)) (TT : Tb), H' D = some (.lst (ps.map V.ref)) ∧ Paired (fun p kv => SqT K H' p [kV kv.1, kv.2]) ps kvs ∧
              kvs.map (·.1) = (ss.take i).map Sum.inr ∧ TT.map (·.1) = ss.take i ∧ ps.length = i ∧ ∀ x ∈ TT, EnOk B ss x.2.1 x.2.2 ∧ ∃ e ekv, valV kvs (Sum.inr x.1 : Key) = some (.ref e) ∧ Rd H' e (.dK ekv) ∧ EDv K H' ekv x.2.1 x.2.2)
            ⟨kx5.mut hD0, D5.upd hDd, by rw [upd_ne hDm.symm]; exact hm5, [], [], [], upd_same, Paired.nil, rfl, rfl, rfl, (fun _ h => nomatch h)⟩ (fun i H' _ p => SqL.of p.2.2.1) (fun i x Ha Hb hi p y => ?_) (fun H6 p => ?_)
          · obtain ⟨rfl, hx⟩ := y
            obtain ⟨kx, Di, hmi, ps, kvs, TT, hDl, hpd, ek, et, pl, hall⟩ := p
            rw [List.length_map] at hi
            have ex0 : x = .str ss[i] := by
              rw [List.getElem?_map, List.getElem?_eq_getElem hi] at hx
              exact (Option.some.inj hx).symm
            subst ex0
            refine ⟨rfl, ?_⟩
            refine tyes ?_
            have hPi : PDic K Hb pd B := hPd.kr (hDi.kr kx)
            refine ⟨_, rfl, _, rfl, _, rfl, _, rfl, d, pd, m, B, ss, rfl, Di, hPi, ok, hmi, hmd, by omega, by omega, fun H7 e kv es kp kx7 D7 he he7 hE hEn => ?_⟩
            refine ⟨sz1000 (by show 2 ≤ 1000; decide), fun t hnt => ?_⟩
            have xt := Ex.new (o := .tup [V.str ss[i], .ref e]) hnt
            have htt : (upd H7 t (.tup [V.str ss[i], .ref e])) t = some (.tup [V.str ss[i], .ref e]) := upd_same
            generalize upd H7 t (.tup [V.str ss[i], .ref e]) = H8 at xt htt ⊢
            have kx8 : Kx d Hb H8 := kx7.trans (.of_ex xt)
            have hD8 := kx8 _ _ hDd hDl
            refine ⟨_, hD8, szlt (by rw [List.length_map]; omega), ?_⟩
            have ktD : Kt K H8 (upd H8 D (.lst (ps.map V.ref ++ [V.ref t]))) := Kt.upd hD8 (fun _ z => by cases z) (fun _ _ z => by cases z)
            have kr8 : Kr Hb H8 := Di.kr kx8
            have krD : Kr H8 (upd H8 D (.lst (ps.map V.ref ++ [V.ref t]))) := Kr.lst hD8
            have krA := kr8.trans krD
            have fresh : ss[i] ∉ ss.take i := fun m' => by
              obtain ⟨j, hj, ej⟩ := List.mem_iff_getElem.mp m'
              rw [List.getElem_take] at ej
              have := (List.getElem_inj snd).mp ej
              rw [List.length_take] at hj
              omega
            have hno : valV kvs (Sum.inr ss[i] : Key) = none := valV_none (by
              rw [ek]
              intro m'
              obtain ⟨x, hx, ex⟩ := List.mem_map.mp m'
              cases ex
              exact fresh hx)
            refine ⟨(kx.trans kx8).mut hD0, (D7.ex xt).upd hDd, by rw [upd_ne hDm.symm]; exact kx8 _ _ hmd hmi, ps ++ [t], kvs ++ [(Sum.inr ss[i], .ref e)], TT ++ [(ss[i], es, kp)], ?_, ?_, ?_, ?_, ?_, fun x hx => ?_⟩
            · rw [upd_same, List.map_append]; rfl
            · exact Paired.snoc (hpd.mono fun _ _ h => krA.tup h) (ktD _ _ (SqT.of htt))
            · rw [List.map_append, ek, List.take_add_one, List.map_append, List.getElem?_eq_getElem hi]; rfl
            · rw [List.map_append, et, List.take_add_one, List.getElem?_eq_getElem hi]; rfl
            · rw [List.length_append, pl]; rfl
            · rcases List.mem_append.mp hx with hx | hx
              · obtain ⟨h1, e0, ekv, hv, hrd, hE0⟩ := hall x hx
                exact ⟨h1, e0, ekv, valV_left hv, krA.dic hrd, hE0.kr krA⟩
              · rw [List.mem_singleton.mp hx]
                exact ⟨hEn, e, kv, valV_right hno, krD.dic (.inl (xt _ _ he7)), hE.kr ((Kr.of_ex xt).trans krD)⟩
          · obtain ⟨kx, Di, hmi, ps, kvs, TT, hDl, hpd, ek, et, pl, hall⟩ := p
            rw [List.length_map, List.take_length] at ek et
            refine ⟨D, ps, kvs, rfl, SqL.of hDl, hpd, fun q hq => ?_⟩
            have knd : (kvs.map (·.1)).Nodup := by
              rw [ek]
              exact List.pairwise_map.mpr (snd.imp fun n e => n (Sum.inr.inj e))
            have em : mergeK [] kvs = kvs := by
              rw [mergeK_app kvs [] (by rw [List.nil_append]; exact knd), List.nil_append]
            rw [em]
            have xq := Ex.new (o := .dK kvs) hq
            have tl : TT.length = ss.length := by rw [← et, List.length_map]
            refine k _ q kvs TT (kx.trans (.of_ex xq)) (Di.ex xq) (hDi.free Di kx hq) upd_same ⟨⟨ss, ek, by rw [et]⟩, fun x hx => ?_⟩ ⟨by omega, by omega, by rw [et]; exact snd, by rw [et]; exact sall, fun x hx => by rw [et]; exact (hall x hx).1⟩
            obtain ⟨_, e0, ekv, hv, hrd, hE0⟩ := hall x hx
            exact ⟨e0, ekv, hv, ex_rd xq hrd, hE0.kr (.of_ex xq)⟩
    · have kx5 := kx04
      have D5 := D4
      have hm5 := hm4
      have snd := nnd
      have sall : ∀ s ∈ ns, isNm s = true := fun s hs => (nall s hs).1
      have sl := nl
      generalize ns = ss at hm5 snd sall sl ⊢
      refine ⟨_, rfl, m, rfl, ⟨_, SqL.of hm5⟩, fun D hD => ?_⟩
      have hD0 := hDi.free D5 kx5 hD
      have hDd := D5.ne hD
      have hDm : D ≠ m := fun z => by rw [z, hm5] at hD; cases hD
      refine lc_it (w := walk_list (xs := ss.map V.str)) (fun i H' => Kx d H H' ∧ Dice H' d ∧ H' m = some (.lst (ss.map V.str)) ∧ ∃ (ps : List Addr) (kvs : List (Key × V)) (TT : Tb), H' D = some (.lst (ps.map V.ref)) ∧ Paired (fun p kv => SqT K H' p [kV kv.1, kv.2]) ps kvs ∧
          kvs.map (·.1) = (ss.take i).map Sum.inr ∧ TT.map (·.1) = ss.take i ∧ ps.length = i ∧ ∀ x ∈ TT, EnOk B ss x.2.1 x.2.2 ∧ ∃ e ekv, valV kvs (Sum.inr x.1 : Key) = some (.ref e) ∧ Rd H' e (.dK ekv) ∧ EDv K H' ekv x.2.1 x.2.2)
        ⟨kx5.mut hD0, D5.upd hDd, by rw [upd_ne hDm.symm]; exact hm5, [], [], [], upd_same, Paired.nil, rfl, rfl, rfl, (fun _ h => nomatch h)⟩ (fun i H' _ p => SqL.of p.2.2.1) (fun i x Ha Hb hi p y => ?_) (fun H6 p => ?_)
      · obtain ⟨rfl, hx⟩ := y
        obtain ⟨kx, Di, hmi, ps, kvs, TT, hDl, hpd, ek, et, pl, hall⟩ := p
        rw [List.length_map] at hi
        have ex0 : x = .str ss[i] := by
          rw [List.getElem?_map, List.getElem?_eq_getElem hi] at hx
          exact (Option.some.inj hx).symm
        subst ex0
        refine ⟨rfl, ?_⟩
        refine tyes ?_
        have hPi : PDic K Hb pd B := hPd.kr (hDi.kr kx)
        refine ⟨_, rfl, _, rfl, _, rfl, _, rfl, d, pd, m, B, ss, rfl, Di, hPi, ok, hmi, hmd, by omega, by omega, fun H7 e kv es kp kx7 D7 he he7 hE hEn => ?_⟩
        refine ⟨sz1000 (by show 2 ≤ 1000; decide), fun t hnt => ?_⟩
        have xt := Ex.new (o := .tup [V.str ss[i], .ref e]) hnt
        have htt : (upd H7 t (.tup [V.str ss[i], .ref e])) t = some (.tup [V.str ss[i], .ref e]) := upd_same
        generalize upd H7 t (.tup [V.str ss[i], .ref e]) = H8 at xt htt ⊢
        have kx8 : Kx d Hb H8 := kx7.trans (.of_ex xt)
        have hD8 := kx8 _ _ hDd hDl
        refine ⟨_, hD8, szlt (by rw [List.length_map]; omega), ?_⟩
        have ktD : Kt K H8 (upd H8 D (.lst (ps.map V.ref ++ [V.ref t]))) := Kt.upd hD8 (fun _ z => by cases z) (fun _ _ z => by cases z)
        have kr8 : Kr Hb H8 := Di.kr kx8
        have krD : Kr H8 (upd H8 D (.lst (ps.map V.ref ++ [V.ref t]))) := Kr.lst hD8
        have krA := kr8.trans krD
        have fresh : ss[i] ∉ ss.take i := fun m' => by
          obtain ⟨j, hj, ej⟩ := List.mem_iff_getElem.mp m'
          rw [List.getElem_take] at ej
          have := (List.getElem_inj snd).mp ej
          rw [List.length_take] at hj
          omega
        have hno : valV kvs (Sum.inr ss[i] : Key) = none := valV_none (by
          rw [ek]
          intro m'
          obtain ⟨x, hx, ex⟩ := List.mem_map.mp m'
          cases ex
          exact fresh hx)
        refine ⟨(kx.trans kx8).mut hD0, (D7.ex xt).upd hDd, by rw [upd_ne hDm.symm]; exact kx8 _ _ hmd hmi, ps ++ [t], kvs ++ [(Sum.inr ss[i], .ref e)], TT ++ [(ss[i], es, kp)], ?_, ?_, ?_, ?_, ?_, fun x hx => ?_⟩
        · rw [upd_same, List.map_append]; rfl
        · exact Paired.snoc (hpd.mono fun _ _ h => krA.tup h) (ktD _ _ (SqT.of htt))
        · rw [List.map_append, ek, List.take_add_one, List.map_append, List.getElem?_eq_getElem hi]; rfl
        · rw [List.map_append, et, List.take_add_one, List.getElem?_eq_getElem hi]; rfl
        · rw [List.length_append, pl]; rfl
        · rcases List.mem_append.mp hx with hx | hx
          · obtain ⟨h1, e0, ekv, hv, hrd, hE0⟩ := hall x hx
            exact ⟨h1, e0, ekv, valV_left hv, krA.dic hrd, hE0.kr krA⟩
          · rw [List.mem_singleton.mp hx]
            exact ⟨hEn, e, kv, valV_right hno, krD.dic (.inl (xt _ _ he7)), hE.kr ((Kr.of_ex xt).trans krD)⟩
      · obtain ⟨kx, Di, hmi, ps, kvs, TT, hDl, hpd, ek, et, pl, hall⟩ := p
        rw [List.length_map, List.take_length] at ek et
        refine ⟨D, ps, kvs, rfl, SqL.of hDl, hpd, fun q hq => ?_⟩
        have knd : (kvs.map (·.1)).Nodup := by
          rw [ek]
          exact List.pairwise_map.mpr (snd.imp fun n e => n (Sum.inr.inj e))
        have em : mergeK [] kvs = kvs := by
          rw [mergeK_app kvs [] (by rw [List.nil_append]; exact knd), List.nil_append]
        rw [em]
        have xq := Ex.new (o := .dK kvs) hq
        have tl : TT.length = ss.length := by rw [← et, List.length_map]
        refine k _ q kvs TT (kx.trans (.of_ex xq)) (Di.ex xq) (hDi.free Di kx hq) upd_same ⟨⟨ss, ek, by rw [et]⟩, fun x hx => ?_⟩ ⟨by omega, by omega, by rw [et]; exact snd, by rw [et]; exact sall, fun x hx => by rw [et]; exact (hall x hx).1⟩
        obtain ⟨_, e0, ekv, hv, hrd, hE0⟩ := hall x hx
        exact ⟨e0, ekv, hv, ex_rd xq hrd, hE0.kr (.of_ex xq)⟩
end Sk
namespace Sk
open PySem L2 KwX Evl RZ
/-! ### lists of ones -/
theorem dpOnes {K : PySem.W.Frag} {H : Hp} : ∀ l : List Nat, DpAll K H (l.map fun _ => V.int 1) (l.map fun _ => PyData.int 1)
  | [] => .nil
  | _ :: r => .cons (.int 1) (dpOnes r)
theorem canOnes : ∀ l : List Nat, PyData.canLayAll0 (l.map fun _ => PyData.int 1) = true
  | [] => by simp only [List.map_nil, PyData.canLayAll0]
  | _ :: r => by simp only [List.map_cons, PyData.canLayAll0, PyData.canLay0, canOnes r, Bool.and_self]
theorem depOnes : ∀ l : List Nat, PyData.depthAll (l.map fun _ => PyData.int 1) = 0
  | [] => by simp only [List.map_nil, PyData.depthAll]
  | _ :: r => by simp only [List.map_cons, PyData.depthAll, PyData.depth, depOnes r, Nat.max_self]
theorem shapOnes (l : List Nat) : SeqAt.shaped (.list (l.map fun _ => PyData.int 1)) = true := by
  unfold SeqAt.shaped
  simp only [PyData.canLay0, canOnes, PyData.depth, depOnes]
  decide
theorem eqvOnes (l : List Nat) : PyData.eqv (.list (l.map fun _ => PyData.int 1)) (.list []) = decide (l = []) := by
  cases l <;> simp [PyData.eqv, PyData.eqvAll]
theorem filt_nil {n : Nat} {p : Nat → Bool} : decide ((List.range n).filter p = []) = ((List.range n).map fun i => !p i).all id := by
  rw [Bool.eq_iff_iff, decide_eq_true_eq, List.filter_eq_nil_iff, List.all_map, List.all_eq_true]
  simp
def sp_is_word : Sp := fun vs H Q _ => ∃ x, vs = [x] ∧ okV x ∧ ∀ H', Ex H H' → Q (.bl (nmV x)) H'
def sp_is_origin : Sp := fun vs H Q _ => ∃ (x : V) (l : Addr) (done : List Int), vs = [x, .ref l] ∧ okV x ∧ H l = some (.lst (done.map V.int)) ∧ ∀ H', Ex H H' → Q (.bl (okOne done x)) H'
def sp_lis_work (K : PySem.W.Frag) : Sp := fun vs H Q _ => ∃ (pd : Addr) (B : Bk) (p : Addr) (es : List En), vs = [.ref pd, .ref p] ∧ PDic K H pd B ∧ BkOk B ∧ WorkAt K H p es ∧ ∀ H', Ex H H' → Q (.bl (isW B es [] 0 false)) H'
def sp_behind (K : PySem.W.Frag) : Sp := fun vs H Q _ => ∃ (pd t : Addr) (B : Bk) (tk : List (Key × V)) (TT : Tb) (st : Str) (p : Addr) (es : List En), vs = [.ref pd, .ref t, .str st, .ref p] ∧ PDic K H pd B ∧ BkOk B ∧ Rd H t (.dK tk) ∧ TDv K H tk TT ∧ TbOk B TT ∧ st ∈ TT.map (·.1) ∧ WorkAt K H p es ∧
  (∀ s, behind B TT st es = some s → s ∈ TT.map (·.1) → ∀ H', Ex H H' → Q (.str s) H') ∧ (behind B TT st es = none → ∀ H', Ex H H' → Q .non H')
theorem kb_bb : kitB "bool" "bool" = some true := by decide +kernel
abbrev N_is_word : List Str := ["_law_value", "_law_letter"]
theorem sc_is_word : FnScope N_is_word ["_law_value"] (defScope (topS 56)) := ⟨rfl, rfl, rfl, by decide +kernel, rfl, by decide +kernel, by decide +kernel⟩
theorem ok_is_word {P : Program} {w : World} {K : PySem.W.Frag} {mg : Str → Option Value} {base : Heap} {CB CS CI : Addr} (T : Txt K mg CB CS CI) : Cl P w K mg base CX0 1 "_law_is_word" ["_law_value"] sp_is_word := T.f_is_word.cl fun f fd F => by
  refine F.ok sc_is_word (fun vs H Q E h => ?_) (fun cdv A outer s H vs Q E hr h => ?_)
  · obtain ⟨x, rfl, _⟩ := h
    rfl
  · obtain ⟨x, rfl, hx, k⟩ := h
    have hu := hu_of hr
    refine ⟨_, (pss_cons (ps_if (PW.pt (pw_or (pt_not (pt_val (pe_callB call_isi (by rfl) T.zisi bt_isi (pa_cons (pv 0) (pa_cons (pty T.zstr bt_str) pa_nil))))) (pw_or (pt_cmpR op_lt (pe_callB call_len_str (by rfl) T.zlen bt_len (pa_cons (pv 0) pa_nil)) pe_int (nomark _)) (pw_or1 (pt_cmpR op_gt (pe_callB call_len_str (by rfl) T.zlen bt_len (pa_cons (pv 0) pa_nil)) pe_int (nomark _)))))) (pss_one (ps_ret pe_bl)) pss_nil)
      (pss_one (ps_ret (pe_cmpR (op_eqD hr.units) (pe_lc (own := [("_law_letter", 1)]) (g := gName 1) rfl sc_is_word.nd (pi_str (pv 0)) (blkOk_by (N := N_is_word) (sc := defScope (topS 56)) (by decide +kernel)) (fun _ _ _ _ _ => (pg_name (i := 1) sc_is_word.nd rfl (Or.inl rfl))) (fun _ _ _ _ _ => (pts_one (pt_cmpR op_notIn_sign (pv 1) pe_str (by rfl)))) (fun _ _ _ _ _ => pe_int)) (pe_lst pa_nil) (nomark _))))), ?_⟩
    cases x with
    | str z =>
      have hz : z.length ≤ 1000 := hx
      have hsz := sz1000 hz
      have fin : isNm z = false → ∀ H', Ex H H' → Q (V.bl false) H' := fun e H' e1 => by
        have q := k H' e1
        have e' : nmV (V.str z) = false := e
        rw [e'] at q
        exact q
      refine ⟨_, rfl, _, _, _, _, _, rfl, .ty _, .base (.str z), kit_ty kb_ss, _, rfl, ?_⟩
      refine ⟨_, rfl, z, rfl, hsz, _, _, rfl, rfl, _, rfl, ?_⟩
      refine iteD (fun h1 => ?_) (fun h1 => ?_)
      · refine fin ?_ H (Ex.refl H)
        unfold isNm
        rw [decide_eq_false (p := 1 ≤ z.length) (by omega)]
        rfl
      · refine ⟨_, rfl, z, rfl, hsz, _, _, rfl, rfl, _, rfl, ?_⟩
        refine iteD (fun h2 => ?_) (fun h2 => ?_)
        · refine fin ?_ H (Ex.refl H)
          unfold isNm
          rw [decide_eq_false (p := z.length ≤ 8) (by omega), Bool.and_false]
          rfl
        · refine ⟨_, rfl, z, rfl, fun D hD => ?_⟩
          refine lc_filtN (w := walk_str) hD hz (fun _ => rfl) (fun _ _ => trivial) (fun i => !decide (z.cps.toList.getD i 0 ∈ letters.cps.toList)) (fun _ => .int 1) (fun i x H1 H2 hi e y => ?_) (fun H1 e1 hl => ?_)
          · obtain ⟨rfl, c, hc, rfl⟩ := y
            refine ⟨Ex.refl _, fun H3 e3 Q3 q3 => ?_, fun _ H3 e3 Q3 q3 => q3 H3 (Ex.refl _)⟩
            refine ⟨_, rfl, c, letters, rfl, rfl, _, rfl, ?_⟩
            have ec : z.cps.toList.getD i 0 = c := by
              rw [List.getD_eq_getElem?_getD, Array.getElem?_toList, hc]
              rfl
            rw [← ec]
            exact q3 H3 (Ex.refl _)
          · refine ⟨sz1000 (by show 0 ≤ 1000; decide), fun l hl2 => ?_⟩
            have x2 := Ex.new (o := .lst []) hl2
            refine ⟨_, .list [], .lst (SqL.of (x2 _ _ hl)) (dpOnes _), .lst (SqL.of upd_same) .nil, shapOnes _, shapOnes [], ?_⟩
            rw [eqvOnes, filt_nil]
            have q := k _ (e1.trans x2)
            have e' : nmV (V.str z) = ((List.range z.cps.size).map fun i => !!decide (z.cps.toList.getD i 0 ∈ letters.cps.toList)).all id := by
              show isNm z = _
              simp only [Bool.not_not]
              rw [all_range z.cps.toList 0 (fun c => decide (c ∈ letters.cps.toList)) (by simp)]
              unfold isNm
              rw [decide_eq_true (p := 1 ≤ z.length) (by omega), decide_eq_true (p := z.length ≤ 8) (by omega)]
              rfl
            rw [e'] at q
            exact q
    | int n => exact ⟨_, rfl, _, _, _, _, _, rfl, .ty _, .base (.int n), kit_ty kb_is, _, rfl, k H (Ex.refl H)⟩
    | non => exact ⟨_, rfl, _, _, _, _, _, rfl, .ty _, .base .non, kit_ty kb_ns, _, rfl, k H (Ex.refl H)⟩
    | _ => exact hx.elim
abbrev N_is_origin : List Str := ["_law_value", "_law_done"]
theorem sc_is_origin : FnScope N_is_origin ["_law_value", "_law_done"] (defScope (topS 55)) := ⟨rfl, rfl, rfl, by decide +kernel, rfl, by decide +kernel, by decide +kernel⟩
theorem ok_is_origin {P : Program} {w : World} {K : PySem.W.Frag} {mg : Str → Option Value} {base : Heap} {CB CS CI : Addr} (T : Txt K mg CB CS CI) : Cl P w K mg base CX0 2 "_law_is_origin" ["_law_value", "_law_done"] sp_is_origin := T.f_is_origin.cl fun f fd F => by
  refine F.ok sc_is_origin (fun vs H Q E h => ?_) (fun cdv A outer s H vs Q E hr h => ?_)
  · obtain ⟨x, l, done, rfl, _⟩ := h
    rfl
  · obtain ⟨x, l, done, rfl, hx, hl, k⟩ := h
    have hu := hu_of hr
    refine ⟨_, (pss_cons (ps_if (pt_val (pe_callB call_isi (by rfl) T.zisi bt_isi (pa_cons (pv 0) (pa_cons (pty T.zbool bt_bool) pa_nil)))) (pss_one (ps_ret pe_bl)) pss_nil)
      (pss_cons (ps_if (pt_val (pe_callB call_isi (by rfl) T.zisi bt_isi (pa_cons (pv 0) (pa_cons (pty T.zint bt_int) pa_nil)))) (pss_one (ps_ret (pe_cmpR op_in_seq (pv 0) (pv 1) (by rfl)))) pss_nil)
      (pss_one (ps_ret (pe_or (pe_cmpR op_isN (pv 0) pe_non (nomark _)) (pe_one (pc0 (ok_is_word T) hr (pa_cons (pv 0) pa_nil)))))))), ?_⟩
    cases x with
    | str z =>
      refine ⟨_, rfl, _, _, _, _, _, rfl, .ty _, .base (.str z), kit_ty kb_sb, _, rfl, ?_⟩
      refine ⟨_, rfl, _, _, _, _, _, rfl, .ty _, .base (.str z), kit_ty kb_si, _, rfl, ?_⟩
      refine ⟨_, rfl, rfl, _, rfl, ?_⟩
      refine iteBF rfl ?_
      exact ⟨_, rfl, .str z, rfl, hx, fun H1 e1 => k H1 e1⟩
    | int n =>
      refine ⟨_, rfl, _, _, _, _, _, rfl, .ty _, .base (.int n), kit_ty kb_ib, _, rfl, ?_⟩
      refine ⟨_, rfl, _, _, _, _, _, rfl, .ty _, .base (.int n), kit_ty kb_ii, _, rfl, ?_⟩
      refine ⟨_, rfl, _, rfl, l, _, rfl, .inl (SqL.of hl), rfl, flat_ints _, ?_⟩
      show Q (.bl (inV _ _)) H
      rw [inV_int]
      exact k H (Ex.refl H)
    | non =>
      refine ⟨_, rfl, _, _, _, _, _, rfl, .ty _, .base .non, kit_ty kb_nb, _, rfl, ?_⟩
      refine ⟨_, rfl, _, _, _, _, _, rfl, .ty _, .base .non, kit_ty kb_ni, _, rfl, ?_⟩
      exact ⟨_, rfl, rfl, _, rfl, k H (Ex.refl H)⟩
    | _ => exact hx.elim
abbrev N_lis_work : List Str := ["_law_pairs_here", "_law_value", "_law_done", "_law_tried", "_law_is_open", "_law_entry", "_law_one"]
theorem sc_lis_work : FnScope N_lis_work ["_law_pairs_here", "_law_value"] (defScope (topS 57)) := ⟨rfl, rfl, rfl, by decide +kernel, rfl, by decide +kernel, by decide +kernel⟩
theorem ok_lis_work {P : Program} {w : World} {K : PySem.W.Frag} {mg : Str → Option Value} {base : Heap} {CB CS CI : Addr} (T : Txt K mg CB CS CI) : Cl P w K mg base CX0 3 "_law_is_work" ["_law_pairs_here", "_law_value"] (sp_lis_work K) := T.f_lis_work.cl fun f fd F => by
  refine F.ok sc_lis_work (fun vs H Q E h => ?_) (fun cdv A outer s H vs Q E hr h => ?_)
  · obtain ⟨pd, B, p, es, rfl, _⟩ := h
    rfl
  · obtain ⟨pd, B, p, es, rfl, hP, ok, ⟨vs, hp, hes, hl⟩, k⟩ := h
    have hu := hu_of hr
    refine ⟨_, (pss_cons (ps_asg (pe_tup (pa_cons (pe_lst pa_nil) (pa_cons pe_int (pa_cons pe_bl pa_nil)))) (pg_tup (by rfl) (pgs_cons (pg_name (i := 2) sc_lis_work.nd rfl (Or.inr rfl)) (pgs_cons (pg_name (i := 3) sc_lis_work.nd rfl (Or.inl rfl)) (pgs_cons (pg_name (i := 4) sc_lis_work.nd rfl (Or.inl rfl)) pgs_nil)))))
      (pss_cons (ps_for PassesOwn.never rfl (pi_tup (pv 1)) (pg_name (i := 5) sc_lis_work.nd rfl (Or.inl rfl))
      (pss_one (ps_if (pt_cmpR (op_eqD hr.units) (pv 5) (pe_tup (pa_cons pe_str pa_nil)) (nomark _)) (pss_cons (ps_if (pt_not (pt_val (pv 4))) (pss_one (ps_ret pe_bl)) pss_nil)
      (pss_one (ps_set (i := 4) sc_lis_work.nd rfl (Or.inl rfl) pe_bl))) (pss_cons (ps_if (PW.pt (pw_or (pt_cmpR op_ne (pe_callB call_len_seq (by rfl) T.zlen bt_len (pa_cons (pv 5) pa_nil)) pe_int (nomark _)) (pw_or (pt_cmp (pc_dnotin hu (pe_ix ix_tup (pv 5) pe_int (fun _ _ => rfl)) (pv 0))) (pw_or1 (pt_cmpR op_notIn_seq (pe_ix ix_tup (pv 5) pe_int (fun _ _ => rfl)) (pc0 (ok_loutcomes T) hr (pa_cons (pv 0) (pa_cons (pe_ix ix_tup (pv 5) pe_int (fun _ _ => rfl)) pa_nil))) (by rfl)))))) (pss_one (ps_ret pe_bl)) pss_nil)
      (pss_cons (ps_if (PW.pt (pw_or (pt_cmpR op_ne (pe_callB call_len_seq (by rfl) T.zlen bt_len (pa_cons (pe_ix ix_tup (pv 5) pe_int (fun _ _ => rfl)) pa_nil)) (pe_ix ix_tup (pe_dget hu (pv 0) (pe_ix ix_tup (pv 5) pe_int (fun _ _ => rfl)) (fun _ _ => rfl)) pe_int (fun _ _ => rfl)) (nomark _)) (pw_or1 (pt_cmpR (op_neD hr.units) (pe_lc (own := [("_law_one", 6)]) (g := gName 6) rfl sc_lis_work.nd (pi_tup (pe_ix ix_tup (pv 5) pe_int (fun _ _ => rfl))) (blkOk_by (N := N_lis_work) (sc := defScope (topS 57)) (by decide +kernel)) (fun _ _ _ _ _ => (pg_name (i := 6) sc_lis_work.nd rfl (Or.inl rfl))) (fun _ _ _ _ _ => (pts_one (pt_not (pt_val (pc0 (ok_is_origin T) hr (pa_cons (pv 6) (pa_cons (pv 2) pa_nil))))))) (fun _ _ _ _ _ => pe_int)) (pe_lst pa_nil) (nomark _))))) (pss_one (ps_ret pe_bl)) pss_nil)
      (pss_cons (ps_set (i := 4) sc_lis_work.nd rfl (Or.inl rfl) (pe_cmpR op_ne (pe_ix ix_tup (pv 5) pe_int (fun _ _ => rfl)) pe_str (nomark _)))
      (pss_cons (ps_set (i := 2) sc_lis_work.nd rfl (Or.inr rfl) (pe_op op_cat (pv 2) (pe_op op_rep (pe_lst (pa_cons (pv 3) pa_nil)) (pe_callTy call_int1 (by rfl) T.zint bt_int (pa_cons (pv 4) pa_nil)))))
      (pss_one (ps_set (i := 3) sc_lis_work.nd rfl (Or.inl rfl) (pe_op op_add (pv 3) pe_int))))))))))
      (pss_one (ps_ret pe_bl)))), ?_⟩
    have vl := hes.len
    refine ⟨sz1000 (by show 0 ≤ 1000; decide), fun l0 hl0 => ?_⟩
    refine ⟨sz1000 (by show 3 ≤ 1000; decide), fun p1 hp1 => ?_⟩
    have x0 := Ex.new (o := .lst []) hl0
    have x1 := x0.trans (Ex.new (o := .tup [V.ref l0, .int 0, .bl false]) hp1)
    have hl1 := Ex.new (o := .tup [V.ref l0, .int 0, .bl false]) hp1 _ _ (show (upd H l0 (.lst [])) l0 = some (.lst []) from upd_same)
    have hp1' : (upd (upd H l0 (.lst [])) p1 (.tup [V.ref l0, .int 0, .bl false])) p1 = some (.tup [V.ref l0, .int 0, .bl false]) := upd_same
    generalize upd (upd H l0 (.lst [])) p1 (.tup [V.ref l0, .int 0, .bl false]) = H1 at x1 hl1 hp1' ⊢
    refine ⟨p1, _, rfl, SqT.of hp1', rfl, _, _, rfl, _, _, rfl, _, _, rfl, rfl, ?_⟩
    refine ⟨_, rfl, p, rfl, ⟨_, ex_t x1 hp⟩, ?_⟩
    refine for_it (w := walk_tup (xs := vs)) (fun i σ H' => ∃ (done : List Int) (tried : Int) (op : Bool) (l : Addr) (x5 x6 : Option V), σ = [some (.ref pd), some (.ref p), some (.ref l), some (.int tried), some (.bl op), x5, x6] ∧ isW B (es.drop i) done tried op = isW B es [] 0 false ∧
        Ex H H' ∧ H' l = some (.lst (done.map V.int)) ∧ done.length ≤ i)
      ⟨[], 0, false, l0, none, none, rfl, rfl, x1, hl1, Nat.zero_le _⟩ (fun i σ H' _ p => ?_) (fun i x σ Ha Hb hi p y => ?_) (fun σ H' p => ?_)
    · obtain ⟨_, _, _, _, _, _, _, _, e, _⟩ := p
      exact ex_t e hp
    · obtain ⟨rfl, hx⟩ := y
      obtain ⟨done, tried, op, l, x5, x6, rfl, eq, e, hd, dl⟩ := p
      have hi' : i < es.length := by omega
      have hE := (hes.at_ i x es[i] hx (List.getElem?_eq_getElem hi')).kt (Kt.of_ex e)
      have hdr : es.drop i = es[i] :: es.drop (i + 1) := List.drop_eq_getElem_cons hi'
      rw [hdr] at eq
      generalize es[i] = en at hE eq
      refine ⟨_, rfl, sz1000 (by show 1 ≤ 1000; decide), fun p2 hp2 => ?_⟩
      have x2 := Ex.new (o := .tup [V.str "kept"]) hp2
      have h2 : (upd Hb p2 (.tup [V.str "kept"])) p2 = some (.tup [V.str "kept"]) := upd_same
      generalize upd Hb p2 (.tup [V.str "kept"]) = H2 at x2 h2 ⊢
      have hE2 := hE.kt (Kt.of_ex x2)
      refine ⟨dE en, .tuple [.str "kept"], dpE hE2, .tup (SqT.of h2) (.cons (.str _) .nil), shapE hE2, shapK, _, rfl, ?_⟩
      rw [eqv_kept]
      have e2 := e.trans x2
      cases en with
      | kept =>
        refine iteBT rfl ?_
        refine ⟨_, rfl, _, rfl, ?_⟩
        cases op with
        | false =>
          have : isW B es [] 0 false = false := by rw [← eq]; rfl
          rw [this] at k
          exact k _ e2
        | true =>
          refine ⟨done, tried, false, l, _, _, rfl, ?_, e2, x2 _ _ hd, Nat.le_succ_of_le dl⟩
          rw [← eq]; rfl
      | cmd c org out =>
        refine iteBF rfl ?_
        obtain ⟨q, a, rfl, h1, ha, okv, l1000, _⟩ := hE2
        obtain ⟨pk, hr1, hPk⟩ := hP.kr (.of_ex e2)
        refine ⟨_, rfl, q, _, rfl, .inr h1, rfl, _, rfl, ?_⟩
        have bad : okE B done c org out = false → ∀ H', Ex H H' → Q (.bl false) H' := fun hb H' e' => by
          have : isW B es [] 0 false = false := by rw [← eq]; show (okE B done c org out && _) = false; rw [hb]; rfl
          rw [this] at k
          exact k H' e'
        refine ⟨_, rfl, q, _, (0 : Int), _, rfl, rfl, h1, rfl, _, rfl, pd, _, rfl, dgetS hr1 rfl, _, rfl, ?_⟩
        rw [hPk.isSome]
        by_cases hc : c ∈ B.map (·.1)
        case neg =>
          refine iteNF hc ?_
          exact bad (by unfold okE; rw [find_no hc]) _ e2
        refine iteNT hc ?_
        obtain ⟨pr, hf, hm, rfl⟩ := find_at hc
        have eo : okE B done pr.1 org out = (decide (org.length = pr.2.1) && (org.all (okOne done) && decide (out ∈ ("failed" : Str) :: pr.2.2))) := by unfold okE; rw [hf]
        refine ⟨_, rfl, q, _, (2 : Int), _, rfl, rfl, h1, rfl, _, rfl, _, rfl, q, _, (0 : Int), _, rfl, rfl, h1, rfl, pd, B, pr.1, pr.2.1, pr.2.2, rfl, ⟨pk, hr1, hPk⟩, ok, hm, fun H3 q3 zs e3 hq3 h3 pm => ?_⟩
        refine ⟨q3, _, rfl, .inl (SqL.of h3), rfl, flat_strs _, _, rfl, ?_⟩
        show if (!inV _ _) = true then _ else _
        rw [inV_str]
        have e23 := e2.trans e3
        by_cases ho : out ∈ ("failed" : Str) :: pr.2.2
        case neg =>
          refine iteNF (fun z => ho (pm.mem_iff.mp z)) ?_
          exact bad (by rw [eo, decide_eq_false ho, Bool.and_false, Bool.and_false]) _ e23
        refine iteNT (pm.mem_iff.mpr ho) ?_
        have h13 := ex_t e3 h1
        have ha3 := ex_t e3 ha
        obtain ⟨pv, hv, pp, pa, rfl, hpp, hpa⟩ := (hPk.kr (.of_ex e3)).get pr hm
        refine ⟨_, rfl, q, _, (1 : Int), _, rfl, rfl, h13, rfl, a, _, rfl, .inr ha3, _, rfl, _, rfl, q, _, (0 : Int), _, rfl, rfl, h13, rfl, pd, _, rfl, dgetS (ex_rd e3 hr1) hv, pp, _, (0 : Int), _, rfl, rfl, hpp, rfl, rfl, _, rfl, ?_⟩
        by_cases hl : org.length = pr.2.1
        case neg =>
          refine iteNF (fun z => hl (by have := V.int.inj z; omega)) ?_
          exact bad (by rw [eo, decide_eq_false hl]; rfl) _ e23
        refine iteNT (by rw [hl]) ?_
        have hd3 := e3 _ _ (x2 _ _ hd)
        refine ⟨_, rfl, q, _, (1 : Int), _, rfl, rfl, h13, rfl, a, rfl, ⟨_, ha3⟩, fun D hD => ?_⟩
        refine lc_filtN (w := walk_tup (xs := org)) hD l1000 (fun _ => rfl) (fun H4 e4 => ex_t e4 ha3) (fun i => !okOne done (org.getD i .non)) (fun _ => .int 1) (fun j x Hc Hd hj ec y => ?_) (fun H4 e4 hl4 => ?_)
        · obtain ⟨rfl, hx⟩ := y
          have ex0 : org.getD j .non = x := by
            rw [getD_lt hj]
            rw [List.getElem?_eq_getElem hj] at hx
            exact Option.some.inj hx
          have okx := (okv x (List.mem_of_getElem? hx)).1
          rw [ex0]
          refine ⟨Ex.refl _, fun H5 e5 Q5 q5 => ?_, fun _ H5 e5 Q5 q5 => q5 H5 (Ex.refl _)⟩
          refine ⟨_, rfl, _, rfl, x, l, done, rfl, okx, e5 _ _ (ec _ _ hd3), fun H6 e6 => ⟨_, rfl, ?_⟩⟩
          exact q5 H6 e6
        · refine ⟨sz1000 (by show 0 ≤ 1000; decide), fun l5 hl5 => ?_⟩
          have x5 := Ex.new (o := .lst []) hl5
          refine ⟨_, .list [], .lst (SqL.of (x5 _ _ hl4)) (dpOnes _), .lst (SqL.of upd_same) .nil, shapOnes _, shapOnes [], _, rfl, ?_⟩
          rw [eqvOnes, filt_nil]
          simp only [Bool.not_not]
          rw [all_range org .non (okOne done) rfl]
          have e45 := e4.trans x5
          generalize upd H4 l5 (.lst []) = H5 at e45 ⊢
          have e5 := e23.trans e45
          refine iteNB (fun hn => ?_) (fun hn => ?_)
          · exact bad (by rw [eo, hn, Bool.false_and, Bool.and_false]) _ e5
          have hok : okE B done pr.1 org out = true := by rw [eo, hn, decide_eq_true hl, decide_eq_true ho]; rfl
          have eq1 : isW B (es.drop (i + 1)) (if out ≠ "failed" then done ++ [tried] else done) (tried + 1) (decide (out ≠ "failed")) = isW B es [] 0 false := by
            rw [← eq]
            show _ = (okE B done pr.1 org out && isW B (es.drop (i + 1)) _ _ _)
            rw [hok, Bool.true_and]
          have h15 := ex_t e45 h13
          have hd5 := e45 _ _ hd3
          refine ⟨_, rfl, q, _, (2 : Int), _, rfl, rfl, h15, rfl, rfl, ?_⟩
          by_cases hof : out = "failed"
          · have ho' : (!decide (V.str out = V.str "failed")) = false := by rw [hof]; simp
            rw [ho']
            refine ⟨_, rfl, _, rfl, sz1000 (by show 1 ≤ 1000; decide), fun l6 hl6 => ?_⟩
            have x6 := Ex.new (o := .lst [V.int tried]) hl6
            refine ⟨_, rfl, .inr ⟨_, rfl, l6, _, _, rfl, rfl, upd_same, by decide, by decide, sz1000 (by show 1 * 0 ≤ 1000; decide), fun l7 hl7 => ?_⟩⟩
            have x7 := x6.trans (Ex.new (o := .lst (List.replicate (if false = true then (1 : Int) else 0).toNat [V.int tried]).flatten) hl7)
            refine ⟨l, l7, _, _, rfl, rfl, x7 _ _ hd5, upd_same, sz1000 (by rw [List.length_map]; show done.length + 0 ≤ 1000; omega), fun l8 hl8 => ?_⟩
            refine ⟨_, rfl, _, _, rfl, rfl, ?_⟩
            rw [if_neg (by simp [hof]), show decide (out ≠ "failed") = false by simp [hof]] at eq1
            refine ⟨done, tried + 1, false, l8, _, _, rfl, eq1, (e5.trans x7).trans (Ex.new hl8), ?_, Nat.le_succ_of_le dl⟩
            rw [upd_same]
            show some (HO.lst (done.map V.int ++ [])) = _
            rw [List.append_nil]
          · have ho' : (!decide (V.str out = V.str "failed")) = true := by rw [decide_eq_false (fun z => hof (V.str.inj z))]; rfl
            rw [ho']
            refine ⟨_, rfl, _, rfl, sz1000 (by show 1 ≤ 1000; decide), fun l6 hl6 => ?_⟩
            have x6 := Ex.new (o := .lst [V.int tried]) hl6
            refine ⟨_, rfl, .inr ⟨_, rfl, l6, _, _, rfl, rfl, upd_same, by decide, by decide, sz1000 (by show 1 * 1 ≤ 1000; decide), fun l7 hl7 => ?_⟩⟩
            have x7 := x6.trans (Ex.new (o := .lst (List.replicate (if true = true then (1 : Int) else 0).toNat [V.int tried]).flatten) hl7)
            refine ⟨l, l7, _, _, rfl, rfl, x7 _ _ hd5, upd_same, sz1000 (by rw [List.length_map]; show done.length + 1 ≤ 1000; omega), fun l8 hl8 => ?_⟩
            refine ⟨_, rfl, _, _, rfl, rfl, ?_⟩
            rw [if_pos hof, show decide (out ≠ "failed") = true by simp [hof]] at eq1
            refine ⟨done ++ [tried], tried + 1, true, l8, _, _, rfl, eq1, (e5.trans x7).trans (Ex.new hl8), ?_, ?_⟩
            · rw [upd_same, List.map_append]; rfl
            · rw [List.length_append]; show done.length + 1 ≤ i + 1; omega
    · obtain ⟨done, tried, op, l, x5, x6, rfl, eq, e, _⟩ := p
      rw [vl, List.drop_length] at eq
      rw [← eq] at k
      exact k _ e
abbrev N_behind : List Str := ["_law_pairs_here", "_law_table_here", "_law_root", "_law_work", "_law_state_here", "_law_entry", "_law_outcome", "_law_later"]
theorem sc_behind : FnScope N_behind ["_law_pairs_here", "_law_table_here", "_law_root", "_law_work"] (defScope (topS 58)) := ⟨rfl, rfl, rfl, by decide +kernel, rfl, by decide +kernel, by decide +kernel⟩
theorem ok_behind {P : Program} {w : World} {K : PySem.W.Frag} {mg : Str → Option Value} {base : Heap} {CB CS CI : Addr} (T : Txt K mg CB CS CI) : Cl P w K mg base CX0 4 "_law_behind" ["_law_pairs_here", "_law_table_here", "_law_root", "_law_work"] (sp_behind K) := T.f_behind.cl fun f fd F => by
  refine F.ok sc_behind (fun vs H Q E h => ?_) (fun cdv A outer s H vs Q E hr h => ?_)
  · obtain ⟨pd, t, B, tk, TT, st, p, es, rfl, _⟩ := h
    rfl
  · obtain ⟨pd, t, B, tk, TT, st, p, es, rfl, hP, ok, ht, hT, okT, hst, hW, k, kN⟩ := h
    have hu := hu_of hr
    refine ⟨_, (pss_cons (ps_if (pt_not (pt_val (pc0 (ok_lis_work T) hr (pa_cons (pv 0) (pa_cons (pv 3) pa_nil))))) (pss_one (ps_ret pe_non)) pss_nil)
      (pss_cons (ps_set (i := 4) sc_behind.nd rfl (Or.inl rfl) (pv 2))
      (pss_cons (ps_for PassesOwn.never rfl (pi_tup (pv 3)) (pg_name (i := 5) sc_behind.nd rfl (Or.inl rfl))
      (pss_one (ps_if (pt_cmpR op_eq (pe_callB call_len_seq (by rfl) T.zlen bt_len (pa_cons (pv 5) pa_nil)) pe_int (nomark _)) (pss_one (ps_set (i := 4) sc_behind.nd rfl (Or.inl rfl) (pe_dget hu (pe_dget hu (pv 1) (pv 4) (fun _ _ => rfl)) pe_str (fun _ _ => rfl)))) (pss_cons (ps_asg (pe_dget hu (pe_dget hu (pv 1) (pv 4) (fun _ _ => rfl)) (pe_ix ix_tup (pv 5) pe_int (fun _ _ => rfl)) (fun _ _ => rfl)) (pg_tup (by rfl) (pgs_cons (pg_name (i := 6) sc_behind.nd rfl (Or.inl rfl)) (pgs_cons (pg_name (i := 7) sc_behind.nd rfl (Or.inl rfl)) pgs_nil))))
      (pss_cons (ps_if (pt_cmpR op_ne (pv 6) (pe_ix ix_tup (pv 5) pe_int (fun _ _ => rfl)) (nomark _)) (pss_one (ps_ret pe_non)) pss_nil)
      (pss_one (ps_set (i := 4) sc_behind.nd rfl (Or.inl rfl) (pv 7))))))))
      (pss_one (ps_ret (pv 4)))))), ?_⟩
    obtain ⟨vs, hp, hes, hl⟩ := id hW
    have vl := hes.len
    refine ⟨_, rfl, _, rfl, pd, B, p, es, rfl, hP, ok, hW, fun H1 e1 => ?_⟩
    refine ⟨_, rfl, ?_⟩
    refine iteNB (fun hw => ?_) (fun hw => ?_)
    · exact kN (by unfold behind; rw [hw]; rfl) H1 e1
    have hbh : behind B TT st es = behF TT es st := by unfold behind; rw [if_pos hw]
    refine ⟨_, rfl, ?_⟩
    refine ⟨_, rfl, p, rfl, ⟨_, ex_t e1 hp⟩, ?_⟩
    refine for_it (w := walk_tup (xs := vs)) (fun i σ H' => ∃ (s0 : Str) (x3 x4 x5 : Option V), σ = [some (.ref pd), some (.ref t), some (.str st), some (.ref p), some (.str s0), x3, x4, x5] ∧ behF TT (es.drop i) s0 = behF TT es st ∧ s0 ∈ TT.map (·.1) ∧ Ex H H')
      ⟨st, none, none, none, rfl, rfl, hst, e1⟩ (fun i σ H' _ q => ?_) (fun i x σ H3 H2 hi q y => ?_) (fun σ H' q => ?_)
    · obtain ⟨_, _, _, _, _, _, _, e⟩ := q
      exact ex_t e hp
    · obtain ⟨rfl, hx⟩ := y
      obtain ⟨s0, x3, x4, x5, rfl, eq, hs0, e⟩ := q
      have hi' : i < es.length := by omega
      have hE := (hes.at_ i x es[i] hx (List.getElem?_eq_getElem hi')).kt (Kt.of_ex e)
      have hnm := isW_nm hw es[i] (List.getElem_mem hi')
      have hdr : es.drop i = es[i] :: es.drop (i + 1) := List.drop_eq_getElem_cons hi'
      rw [hdr] at eq
      generalize es[i] = en at hE eq hnm
      obtain ⟨ea, kvs, es0, kp, q1, r1, hE1, en1, hkp, hent⟩ := (hT.kr (.of_ex e)).at_ okT hs0
      have ht2 := ex_rd e ht
      cases en with
      | kept =>
        obtain ⟨q, rfl, h1⟩ := hE
        refine ⟨_, rfl, q, _, rfl, .inr h1, rfl, _, rfl, ?_⟩
        refine iteDT rfl ?_
        refine ⟨_, rfl, _, rfl, t, _, rfl, dgetS ht2 q1, ea, _, rfl, dgetS r1 hE1.kept, ?_⟩
        refine ⟨kp, _, _, _, rfl, ?_, en1.kp, e⟩
        rw [← eq, ← hkp]
        rfl
      | cmd c org out =>
        obtain ⟨q, a, rfl, h1, _⟩ := hE
        refine ⟨_, rfl, q, _, rfl, .inr h1, rfl, _, rfl, ?_⟩
        refine iteDF (fun z => by have := V.int.inj z; simp at this) ?_
        obtain ⟨vv, hvv, ⟨pe, rfl, hpe⟩, hin, _⟩ := hent c hnm
        refine ⟨_, rfl, _, rfl, t, _, rfl, dgetS ht2 q1, _, rfl, q, _, (0 : Int), _, rfl, rfl, h1, rfl, ea, _, rfl, dgetS r1 hvv, pe, _, rfl, hpe, rfl, _, _, rfl, _, _, rfl, rfl, ?_⟩
        refine ⟨_, rfl, _, rfl, q, _, (2 : Int), _, rfl, rfl, h1, rfl, rfl, _, rfl, ?_⟩
        have eq2 : (if (entOf TT s0 c).1 = out then behF TT (es.drop (i + 1)) (entOf TT s0 c).2 else none) = behF TT es st := eq
        by_cases ho : (entOf TT s0 c).1 = out
        · refine iteNT (by rw [ho]) ?_
          refine ⟨_, rfl, ?_⟩
          rw [if_pos ho] at eq2
          exact ⟨_, _, _, _, rfl, eq2, hin, e⟩
        · refine iteNF (fun z => ho (V.str.inj z)) ?_
          rw [if_neg ho] at eq2
          exact kN (by rw [hbh]; exact eq2.symm) _ e
    · obtain ⟨s0, x3, x4, x5, rfl, eq, hs0, e⟩ := q
      rw [vl, List.drop_length] at eq
      refine ⟨_, rfl, ?_⟩
      exact k s0 (by rw [hbh, ← eq]; rfl) hs0 H' e
end Sk
namespace Sk
open PySem L2 KwX Evl RZ
theorem nm_strOk {s : Str} (h : isNm s = true) : PyData.strOk s = true := by
  have hl : ∀ c ∈ letters.cps.toList, c < 0x110000 := by decide +kernel
  unfold PyData.strOk
  rw [← Array.all_toList, List.all_eq_true]
  exact fun c hc => decide_eq_true (hl c (nm_all h c hc))
theorem dpInts {K : PySem.W.Frag} {H : Hp} : ∀ l : List Int, DpAll K H (l.map V.int) (l.map PyData.int)
  | [] => .nil
  | i :: r => .cons (.int i) (dpInts r)
theorem canInts : ∀ l : List Int, PyData.canLayAll0 (l.map PyData.int) = true
  | [] => by simp only [List.map_nil, PyData.canLayAll0]
  | _ :: r => by simp only [List.map_cons, PyData.canLayAll0, PyData.canLay0, canInts r, Bool.and_self]
theorem depInts : ∀ l : List Int, PyData.depthAll (l.map PyData.int) = 0
  | [] => by simp only [List.map_nil, PyData.depthAll]
  | _ :: r => by simp only [List.map_cons, PyData.depthAll, PyData.depth, depInts r, Nat.max_self]
theorem shapInts (l : List Int) : SeqAt.shaped (.list (l.map PyData.int)) = true := by
  unfold SeqAt.shaped
  simp only [PyData.canLay0, canInts, PyData.depth, depInts]
  decide
theorem eqvInts (l : List Int) : PyData.eqv (.list (l.map PyData.int)) (.list []) = decide (l = []) := by
  cases l <;> simp [PyData.eqv, PyData.eqvAll]
def extras : List Str := ["who", "a", "ok", "zzzzzzzz"]
theorem extras_nm : ∀ s ∈ extras, isNm s = true := by decide +kernel
def sp_origins (K : PySem.W.Frag) : Sp := fun vs H Q _ => ∃ (d l : Addr) (many : Nat) (done : List Int), vs = [.ref d, .int (many : Int), .ref l] ∧ Dice H d ∧ H l = some (.lst (done.map V.int)) ∧ l ≠ d ∧ many ≤ 900 ∧ done.length ≤ 900 ∧
  ∀ (H' : Hp) (p : Addr) (org : List V), Kx d H H' → Dice H' d → H p = none → SqT K H' p org → org.length = many → (∀ x ∈ org, (okV x ∧ sOk x = true) ∧ okOne done x = true) → Q (.ref p) H'
abbrev N_origins : List Str := ["_law_dice_here", "_law_many", "_law_done", "_law_found", "_law_turn", "_law_way"]
theorem sc_origins : FnScope N_origins ["_law_dice_here", "_law_many", "_law_done"] (defScope (topS 53)) := ⟨rfl, rfl, rfl, by decide +kernel, rfl, by decide +kernel, by decide +kernel⟩
theorem ok_origins {P : Program} {w : World} {K : PySem.W.Frag} {mg : Str → Option Value} {base : Heap} {CB CS CI : Addr} (T : Txt K mg CB CS CI) : Cl P w K mg base CX0 3 "_law_origins" ["_law_dice_here", "_law_many", "_law_done"] (sp_origins K) := T.f_origins.cl fun f fd F => by
  refine F.ok sc_origins (fun vs H Q E h => ?_) (fun cdv A outer s H vs Q E hr h => ?_)
  · obtain ⟨d, l, many, done, rfl, _⟩ := h
    rfl
  · obtain ⟨d, l, many, done, rfl, hD, hl, hld, m9, d9, k⟩ := h
    have hu := hu_of hr
    refine ⟨_, (pss_cons (ps_set (i := 3) sc_origins.nd rfl (Or.inl rfl) (pe_lst pa_nil))
      (pss_cons (ps_for PassesOwn.never rfl (pi_range1 rfl T.zrange (pa_cons (pv 1) pa_nil)) (pg_name (i := 4) sc_origins.nd rfl (Or.inl rfl))
      (pss_cons (ps_set (i := 5) sc_origins.nd rfl (Or.inl rfl) (pc0 (ok_roll T) hr (pa_cons (pv 0) (pa_cons pe_int pa_nil))))
      (pss_one (ps_if (PW.pt (pw_or (pt_cmpR op_eq (pv 5) pe_int (nomark _)) (pw_or1 (PW.pt (pw_and (pt_cmpR op_eq (pv 5) pe_int (nomark _)) (pw_and1 (pt_cmpR (op_eqD hr.units) (pv 2) (pe_lst pa_nil) (nomark _)))))))) (pss_one (ps_expr (pe_bm PySem.F.plainAttrs_list PySem.F.slot_list_append PySem.F.type_list_append mt_append (pv 3) (pa_cons pe_non pa_nil)))) (pss_one (ps_if (pt_cmpR op_eq (pv 5) pe_int (nomark _)) (pss_one (ps_expr (pe_bm PySem.F.plainAttrs_list PySem.F.slot_list_append PySem.F.type_list_append mt_append (pv 3) (pa_cons (pc0 (ok_one_of T) hr (pa_cons (pv 0) (pa_cons (pv 2) pa_nil))) pa_nil)))) (pss_one (ps_expr (pe_bm PySem.F.plainAttrs_list PySem.F.slot_list_append PySem.F.type_list_append mt_append (pv 3) (pa_cons (pc0 (ok_one_of T) hr (pa_cons (pv 0) (pa_cons (pe_lst (pa_cons pe_str (pa_cons pe_str (pa_cons pe_str (pa_cons pe_str pa_nil))))) pa_nil))) pa_nil))))))))))
      (pss_one (ps_ret (pe_callTy call_tuple_of (by rfl) T.ztuple bt_tuple (pa_cons (pv 3) pa_nil)))))), ?_⟩
    refine ⟨sz1000 (by show 0 ≤ 1000; decide), fun fl hf => ?_⟩
    have x1 := Ex.new (o := .lst []) hf
    have hfd := hD.ne hf
    have hlf : l ≠ fl := fun z => by rw [z, hf] at hl; cases hl
    refine ⟨_, rfl, _, rfl, by omega, by omega, ?_⟩
    refine for_it (w := walk_range) (fun i σ H' => ∃ x4 x5, σ = [some (.ref d), some (.int (many : Int)), some (.ref l), some (.ref fl), x4, x5] ∧ Kx d H H' ∧ Dice H' d ∧ ∃ org : List V, H' fl = some (.lst org) ∧ org.length = i ∧ ∀ x ∈ org, (okV x ∧ sOk x = true) ∧ okOne done x = true)
      ⟨none, none, rfl, Kx.of_ex x1, hD.ex x1, [], upd_same, rfl, fun _ h => nomatch h⟩ (fun _ _ _ _ _ => trivial) (fun i x σ Ha Hb hi p y => ?_) (fun σ H4 p => ?_)
    · obtain ⟨rfl, rfl⟩ := y
      obtain ⟨x4, x5, rfl, kx, D1, org, ho, ol, oall⟩ := p
      have hin : i < many := by simpa using hi
      refine ⟨_, rfl, d, _, rfl, D1, by decide, by decide, fun H2 r kx2 D2 hr2 => ?_⟩
      have kx12 := kx.trans kx2
      have hl2 := kx12 _ _ hld hl
      have ho2 := kx2 _ _ hfd ho
      -- the list longer by one
      have fin : ∀ (x : V) (H3 : Hp), Kx d H H3 → Dice H3 d → ((okV x ∧ sOk x = true) ∧ okOne done x = true) →
          Kx d H (upd H3 fl (.lst (org ++ [x]))) ∧ Dice (upd H3 fl (.lst (org ++ [x]))) d ∧
            ∃ org2 : List V, (upd H3 fl (.lst (org ++ [x]))) fl = some (.lst org2) ∧ org2.length = i + 1 ∧ ∀ x ∈ org2, (okV x ∧ sOk x = true) ∧ okOne done x = true := fun x H3 k3 D3 hx => by
        refine ⟨k3.mut hf, D3.upd hfd, org ++ [x], upd_same, by rw [List.length_append, ol]; rfl, fun y hy => ?_⟩
        rcases List.mem_append.mp hy with h | h
        · exact oall y h
        · rw [List.mem_singleton.mp h]; exact hx
      refine ⟨_, rfl, rfl, _, rfl, ?_⟩
      refine iteD (fun h0 => ?_) (fun h0 => ?_)
      · refine ⟨_, rfl, .inl ⟨rfl, _, SqL.of ho2⟩, fl, _, _, rfl, rfl, ho2, szlt (by omega), ?_⟩
        exact ⟨_, _, rfl, fin .non _ kx12 D2 ⟨⟨trivial, rfl⟩, rfl⟩⟩
      · refine ⟨_, rfl, rfl, _, rfl, ?_⟩
        refine iteD (fun h1 => ?_) (fun h1 => ?_)
        · refine ⟨_, rfl, sz1000 (by show 0 ≤ 1000; decide), fun l0 hl0 => ?_⟩
          have x3 := Ex.new (o := .lst []) hl0
          have hl3 := x3 _ _ hl2
          have ho3 := x3 _ _ ho2
          have hl00 : (upd H2 l0 (.lst [])) l0 = some (.lst []) := upd_same
          generalize upd H2 l0 (.lst []) = H3 at x3 hl3 ho3 hl00 ⊢
          have D3 := D2.ex x3
          have kx3 := kx12.trans (.of_ex x3)
          refine ⟨.list (done.map PyData.int), .list [], .lst (SqL.of hl3) (dpInts done), .lst (SqL.of hl00) .nil, shapInts done, shapInts [], _, rfl, ?_⟩
          rw [eqvInts]
          refine iteD (fun hn => ?_) (fun hn => ?_)
          · refine ⟨_, rfl, .inl ⟨rfl, _, SqL.of ho3⟩, fl, _, _, rfl, rfl, ho3, szlt (by omega), ?_⟩
            exact ⟨_, _, rfl, fin .non _ kx3 D3 ⟨⟨trivial, rfl⟩, rfl⟩⟩
          · refine ⟨_, rfl, rfl, _, rfl, ?_⟩
            refine iteDT h1 ?_
            refine ⟨_, rfl, .inl ⟨rfl, _, SqL.of ho3⟩, _, rfl, _, rfl, d, l, _, rfl, D3, hl3, hld, ?_, by rw [List.length_map]; omega, fun H4 x kx4 D4 hx => ?_⟩
            · cases done with
              | nil => exact absurd rfl hn
              | cons a b => exact Nat.succ_pos _
            · obtain ⟨n, hn2, rfl⟩ := List.mem_map.mp hx
              refine ⟨fl, _, _, rfl, rfl, kx4 _ _ hfd ho3, szlt (by omega), ?_⟩
              exact ⟨_, _, rfl, fin (.int n) _ (kx3.trans kx4) D4 ⟨⟨trivial, rfl⟩, decide_eq_true hn2⟩⟩
        · refine ⟨_, rfl, rfl, _, rfl, ?_⟩
          refine iteDF h1 ?_
          refine ⟨_, rfl, .inl ⟨rfl, _, SqL.of ho2⟩, _, rfl, sz1000 (by show 4 ≤ 1000; decide), fun l0 hl0 => ?_⟩
          have x3 := Ex.new (o := .lst (extras.map V.str)) hl0
          have D3 := D2.ex x3
          refine ⟨d, l0, extras.map V.str, rfl, D3, upd_same, D2.ne hl0, by decide, by decide, fun H4 x kx4 D4 hx => ?_⟩
          obtain ⟨s0, hs0, rfl⟩ := List.mem_map.mp hx
          have sn := extras_nm s0 hs0
          refine ⟨fl, _, _, rfl, rfl, kx4 _ _ hfd (x3 _ _ ho2), szlt (by omega), ?_⟩
          exact ⟨_, _, rfl, fin (.str s0) _ ((kx12.trans (.of_ex x3)).trans kx4) D4 ⟨⟨isNm_1000 sn, nm_strOk sn⟩, sn⟩⟩
    · obtain ⟨x4, x5, rfl, kx, D1, org, ho, ol, oall⟩ := p
      refine ⟨_, rfl, fl, _, rfl, .inl ⟨SqL.of ho, fun p hp => ?_⟩⟩
      exact k _ p org (kx.trans (Kx.new hp)) (D1.ex (Ex.new hp)) (hD.free D1 kx hp) (SqT.of upd_same) (by simpa using ol) oall
end Sk
namespace Sk
open PySem L2 KwX Evl RZ
/-! ### a work made longer -/
def wEnd : List En → List Int → Int → Bool → List Int × Int × Bool
  | [], d, t, o => (d, t, o)
  | .kept :: r, d, t, _ => wEnd r d t false
  | .cmd _ _ out :: r, d, t, _ => wEnd r (if out ≠ "failed" then d ++ [t] else d) (t + 1) (decide (out ≠ "failed"))
theorem isW_app (B : Bk) : ∀ (a b : List En) (d : List Int) (t : Int) (o : Bool), isW B (a ++ b) d t o = (isW B a d t o && isW B b (wEnd a d t o).1 (wEnd a d t o).2.1 (wEnd a d t o).2.2)
  | [], b, d, t, o => by simp [isW, wEnd]
  | .kept :: r, b, d, t, o => by
    show (o && isW B (r ++ b) d t false) = ((o && isW B r d t false) && _)
    rw [isW_app B r b, Bool.and_assoc]
    rfl
  | .cmd c org out :: r, b, d, t, o => by
    show (okE B d c org out && isW B (r ++ b) _ _ _) = ((okE B d c org out && isW B r _ _ _) && _)
    rw [isW_app B r b, Bool.and_assoc]
    rfl
theorem wEnd_app : ∀ (a b : List En) (d : List Int) (t : Int) (o : Bool), wEnd (a ++ b) d t o = wEnd b (wEnd a d t o).1 (wEnd a d t o).2.1 (wEnd a d t o).2.2
  | [], _, _, _, _ => rfl
  | .kept :: r, b, d, t, _ => wEnd_app r b d t false
  | .cmd _ _ _ :: r, b, _, _, _ => wEnd_app r b _ _ _
theorem behF_app (T : Tb) : ∀ (a b : List En) (s s1 : Str), behF T a s = some s1 → behF T (a ++ b) s = behF T b s1
  | [], _, s, s1, h => by
    have : s = s1 := Option.some.inj h
    rw [this]; rfl
  | .kept :: r, b, s, s1, h => behF_app T r b _ s1 h
  | .cmd c org out :: r, b, s, s1, h => by
    have h' : (if (entOf T s c).1 = out then behF T r (entOf T s c).2 else none) = some s1 := h
    by_cases e : (entOf T s c).1 = out
    · rw [if_pos e] at h'
      show (if (entOf T s c).1 = out then behF T (r ++ b) (entOf T s c).2 else none) = _
      rw [if_pos e]
      exact behF_app T r b _ s1 h'
    · rw [if_neg e] at h'; cases h'
def cntC (es : List En) : Nat := ((List.range es.length).filter fun i => !isKept (es.getD i .kept)).length
theorem cntC_snoc (es : List En) (e : En) : cntC (es ++ [e]) = cntC es + (if isKept e = true then 0 else 1) := by
  unfold cntC
  rw [List.length_append, List.length_singleton, List.range_succ, List.filter_append, List.length_append]
  have h1 : (List.range es.length).filter (fun i => !isKept ((es ++ [e]).getD i .kept)) = (List.range es.length).filter (fun i => !isKept (es.getD i .kept)) := by
    refine List.filter_congr fun i hi => ?_
    have hi := List.mem_range.mp hi
    rw [getD_lt (by rw [List.length_append]; omega), getD_lt hi, List.getElem_append_left hi]
  rw [h1]
  congr 1
  have h2 : (es ++ [e]).getD es.length .kept = e := by simp [List.getD]
  simp only [List.filter_cons, List.filter_nil, h2]
  cases isKept e <;> rfl
theorem EnsV.snoc {K : PySem.W.Frag} {H : Hp} {vs : List V} {es : List En} {v : V} {e : En} (h : EnsV K H vs es) (he : EnV K H v e) : EnsV K H (vs ++ [v]) (es ++ [e]) := by
  refine ⟨by rw [List.length_append, List.length_append, h.len]; rfl, fun i v' e' hv' he' => ?_⟩
  by_cases hi : i < vs.length
  · rw [List.getElem?_append_left hi] at hv'
    rw [List.getElem?_append_left (by rw [← h.len]; exact hi)] at he'
    exact h.at_ i v' e' hv' he'
  · have hi2 : i = vs.length := by
      have := (List.getElem?_eq_some_iff.mp hv').1
      rw [List.length_append, List.length_singleton] at this
      omega
    subst hi2
    have l := h.len
    rw [List.getElem?_append_right (Nat.le_refl _), Nat.sub_self] at hv'
    rw [List.getElem?_append_right (by omega), l, Nat.sub_self] at he'
    cases hv'; cases he'
    exact he
def shortE : En → Prop
  | .kept => True
  | .cmd _ org _ => org.length ≤ 2
def sp_works (K : PySem.W.Frag) : Sp := fun vs H Q _ => ∃ (d pd t : Addr) (B : Bk) (tk : List (Key × V)) (TT : Tb) (st : Str) (many : Nat), vs = [.ref d, .ref pd, .ref t, .str st, .int (many : Int)] ∧ Dice H d ∧ PDic K H pd B ∧ BkOk B ∧ Rd H t (.dK tk) ∧ TDv K H tk TT ∧ TbOk B TT ∧ st ∈ TT.map (·.1) ∧ many ≤ 60 ∧
  ∀ (H' : Hp) (q p : Addr) (es : List En) (s : Str), Kx d H H' → Dice H' d → SqT K H' q [.ref p, .str s] → WorkAt K H' p es → es.length ≤ 120 → (∀ e ∈ es, shortE e) → behind B TT st es = some s → s ∈ TT.map (·.1) → Q (.ref q) H'
theorem failedOk : PyData.strOk "failed" = true := by decide +kernel
theorem ans_strOk {s : Str} (h : isAns s) : PyData.strOk s = true := nm_strOk h.1
theorem outOk {B : Bk} (ok : BkOk B) {c o : Str} {t : Nat} {ys : List Str} (hm : (c, t, ys) ∈ B) (ho : o ∈ ("failed" : Str) :: ys) : PyData.strOk o = true := by
  rcases List.mem_cons.mp ho with h | h
  · rw [h]; exact failedOk
  · exact ans_strOk ((ok.pr _ hm).ans o h)
theorem fst_uniq {α : Type} : ∀ {l : List (Str × α)}, (l.map (·.1)).Nodup → ∀ {c : Str} {p q : α}, (c, p) ∈ l → (c, q) ∈ l → p = q
  | [], _, _, _, _, h, _ => nomatch h
  | x :: r, nd, c, p, q, h1, h2 => by
    have nd' := List.nodup_cons.mp (show (x.1 :: r.map (·.1)).Nodup from nd)
    rcases List.mem_cons.mp h1 with e1 | e1 <;> rcases List.mem_cons.mp h2 with e2 | e2
    · rw [← e1] at e2; exact (congrArg Prod.snd e2).symm
    · exact absurd (List.mem_map.mpr ⟨_, e2, rfl⟩) (by rw [← e1] at nd'; exact nd'.1)
    · exact absurd (List.mem_map.mpr ⟨_, e1, rfl⟩) (by rw [← e2] at nd'; exact nd'.1)
    · exact fst_uniq nd'.2 e1 e2
/-- a work under way -/
structure WInv (K : PySem.W.Frag) (d wl : Addr) (B : Bk) (TT : Tb) (st : Str) (H0 H : Hp) (dl : Addr) (s : Str) (n : Nat) : Prop where
  kx : Kx d H0 H
  di : Dice H d
  n1 : dl ≠ d
  n2 : dl ≠ wl
  hs : s ∈ TT.map (·.1)
  ex : ∃ (done : List Int) (vs : List V) (es : List En) (op : Bool), H dl = some (.lst (done.map V.int)) ∧ done.length ≤ n ∧ H wl = some (.lst vs) ∧ EnsV K H vs es ∧ es.length ≤ 2 * n ∧ (∀ e ∈ es, shortE e) ∧ isW B es [] 0 false = true ∧
    wEnd es [] 0 false = (done, (cntC es : Int), op) ∧ behF TT es st = some s
theorem isW_cmd {B : Bk} {es : List En} {done : List Int} {n : Int} {op : Bool} {c : Str} {org : List V} {out : Str} (h : isW B es [] 0 false = true) (e : wEnd es [] 0 false = (done, n, op)) (ok : okE B done c org out = true) : isW B (es ++ [.cmd c org out]) [] 0 false = true := by
  rw [isW_app, h, e]
  show (true && (okE B done c org out && true)) = true
  rw [ok]; rfl
theorem isW_kept {B : Bk} {es : List En} {done : List Int} {n : Int} (h : isW B es [] 0 false = true) (e : wEnd es [] 0 false = (done, n, true)) : isW B (es ++ [.kept]) [] 0 false = true := by
  rw [isW_app, h, e]
  rfl
abbrev N_works : List Str := ["_law_dice_here", "_law_pairs_here", "_law_table_here", "_law_state_here", "_law_many", "_law_work", "_law_done", "_law_turn", "_law_command", "_law_outcome", "_law_entry"]
theorem sc_works : FnScope N_works ["_law_dice_here", "_law_pairs_here", "_law_table_here", "_law_state_here", "_law_many"] (defScope (topS 54)) := ⟨rfl, rfl, rfl, by decide +kernel, rfl, by decide +kernel, by decide +kernel⟩
theorem ok_works {P : Program} {w : World} {K : PySem.W.Frag} {mg : Str → Option Value} {base : Heap} {CB CS CI : Addr} (T : Txt K mg CB CS CI) : Cl P w K mg base CX0 4 "_law_works" ["_law_dice_here", "_law_pairs_here", "_law_table_here", "_law_state_here", "_law_many"] (sp_works K) := T.f_works.cl fun f fd F => by
  refine F.ok sc_works (fun vs H Q E h => ?_) (fun cdv A outer s H vs Q E hr h => ?_)
  · obtain ⟨d, pd, t, B, tk, TT, st, many, rfl, _⟩ := h
    rfl
  · obtain ⟨d, pd, t, B, tk, TT, st, many, rfl, hDi, hPd, ok, ht, hT, okT, hst, m60, k⟩ := h
    have hu := hu_of hr
    refine ⟨_, (pss_cons (ps_par (i := 5) (j := 6) (by rfl) sc_works.nd rfl rfl (by decide) rfl rfl (pa_cons (pe_lst pa_nil) (pa_cons (pe_lst pa_nil) pa_nil)) (by rfl))
      (pss_cons (ps_for PassesOwn.never rfl (pi_range1 rfl T.zrange (pa_cons (pv 4) pa_nil)) (pg_name (i := 7) sc_works.nd rfl (Or.inl rfl))
      (pss_cons (ps_set (i := 8) sc_works.nd rfl (Or.inl rfl) (pc0 (ok_one_of T) hr (pa_cons (pv 0) (pa_cons (pe_callB (call_sortedD rfl) (by rfl) T.zsorted bt_sorted (pa_cons (pv 1) pa_nil)) pa_nil))))
      (pss_cons (ps_asg (pe_dget hu (pe_dget hu (pv 2) (pv 3) (fun _ _ => rfl)) (pv 8) (fun _ _ => rfl)) (pg_tup (by rfl) (pgs_cons (pg_name (i := 9) sc_works.nd rfl (Or.inl rfl)) (pgs_cons (pg_name (i := 3) sc_works.nd rfl (Or.inl rfl)) pgs_nil))))
      (pss_cons (ps_expr (pe_bm PySem.F.plainAttrs_list PySem.F.slot_list_append PySem.F.type_list_append mt_append (pv 5) (pa_cons (pe_tup (pa_cons (pv 8) (pa_cons (pc0 (ok_origins T) hr (pa_cons (pv 0) (pa_cons (pe_ix ix_tup (pe_dget hu (pv 1) (pv 8) (fun _ _ => rfl)) pe_int (fun _ _ => rfl)) (pa_cons (pv 6) pa_nil)))) (pa_cons (pv 9) pa_nil)))) pa_nil)))
      (pss_one (ps_if (pt_cmpR op_ne (pv 9) pe_str (nomark _)) (pss_cons (ps_set (i := 6) sc_works.nd rfl (Or.inl rfl) (pe_op op_cat (pv 6) (pe_lst (pa_cons (pe_op op_sub (pe_callB call_len_seq (by rfl) T.zlen bt_len (pa_cons (pe_lc (tt := tTest (tOp rEq (tCB (rLenQ K) (tCons (tVar 10) tNil)) (tC (.int 3)))) (own := [("_law_entry", 10)]) (g := gName 10) rfl sc_works.nd (pi_list (pv 5)) (blkOk_by (N := N_works) (sc := defScope (topS 54)) (by decide +kernel)) (fun _ _ _ _ _ => (pg_name (i := 10) sc_works.nd rfl (Or.inl rfl))) (fun _ _ _ _ _ => (pts_one (pt_cmpR op_eq (pe_callB call_len_seq (by rfl) T.zlen bt_len (pa_cons (pv 10) pa_nil)) pe_int (nomark _)))) (fun _ _ _ _ _ => pe_int)) pa_nil)) pe_int) pa_nil))))
      (pss_one (ps_if (pt_cmpR op_eq (pc0 (ok_roll T) hr (pa_cons (pv 0) (pa_cons pe_int pa_nil))) pe_int (nomark _)) (pss_cons (ps_expr (pe_bm PySem.F.plainAttrs_list PySem.F.slot_list_append PySem.F.type_list_append mt_append (pv 5) (pa_cons (pe_tup (pa_cons pe_str pa_nil)) pa_nil)))
      (pss_one (ps_set (i := 3) sc_works.nd rfl (Or.inl rfl) (pe_dget hu (pe_dget hu (pv 2) (pv 3) (fun _ _ => rfl)) pe_str (fun _ _ => rfl))))) pss_nil))) pss_nil))))))
      (pss_one (ps_ret (pe_tup (pa_cons (pe_callTy call_tuple_of (by rfl) T.ztuple bt_tuple (pa_cons (pv 5) pa_nil)) (pa_cons (pv 3) pa_nil))))))), ?_⟩
    refine ⟨sz1000 (by show 0 ≤ 1000; decide), fun wl hw => ?_⟩
    have x1 := Ex.new (o := .lst []) hw
    refine ⟨sz1000 (by show 0 ≤ 1000; decide), fun dl hdl => ?_⟩
    have h1w : (upd H wl (.lst [])) wl = some (.lst []) := upd_same
    generalize upd H wl (.lst []) = H1 at x1 h1w hdl ⊢
    have x2 := x1.trans (Ex.new (o := .lst []) hdl)
    have h2w := Ex.new (o := .lst []) hdl _ _ h1w
    have h2d : (upd H1 dl (.lst [])) dl = some (.lst []) := upd_same
    have hwd := hDi.ne hw
    have hdd := (hDi.ex x1).ne hdl
    have hdw : dl ≠ wl := fun z => by rw [z, h1w] at hdl; cases hdl
    generalize upd H1 dl (.lst []) = H2 at x2 h2w h2d ⊢
    refine ⟨_, _, rfl, ?_⟩
    refine ⟨_, rfl, _, rfl, by omega, by omega, ?_⟩
    have b1 := ok.n1
    have b4 := ok.n4
    refine for_it (w := walk_range) (fun i σ H' => ∃ (s : Str) (dl : Addr) (x7 x8 x9 x10 : Option V), σ = [some (.ref d), some (.ref pd), some (.ref t), some (.str s), some (.int (many : Int)), some (.ref wl), some (.ref dl), x7, x8, x9, x10] ∧ WInv K d wl B TT st H H' dl s i)
      ⟨st, dl, none, none, none, none, rfl, Kx.of_ex x2, hDi.ex x2, hdd, hdw, hst, [], [], [], false, h2d, Nat.zero_le _, h2w, ⟨rfl, fun i v e h => by simp at h⟩, Nat.zero_le _, (fun _ h => nomatch h), rfl, rfl, rfl⟩ (fun _ _ _ _ _ => trivial) (fun i x σ Ha Hb hi p y => ?_) (fun σ H4 p => ?_)
    · obtain ⟨rfl, rfl⟩ := y
      obtain ⟨s0, dl, x7, x8, x9, x10, rfl, kx, D1, n1, n2, hs0, done, vs, es, op, hdn, dnl, hwl, hes, esl, hsh, hW, hE, hbe⟩ := p
      have hin : i < many := by simpa using hi
      have krb := hDi.kr kx
      obtain ⟨pk, hr1, hP⟩ := hPd.kr krb
      obtain ⟨ns, en, pn⟩ := hP.ks
      have pl := hP.len
      have nl : ns.length = pk.length := by
        have := congrArg List.length en
        simpa using this.symm
      refine ⟨_, rfl, _, rfl, pd, pk, ns, rfl, hr1, en, by omega, fun ys m pm _ hm => ?_⟩
      have x3 := Ex.new (o := .lst (ys.map V.str)) hm
      have yl : ys.length = ns.length := pm.length_eq
      refine ⟨d, m, _, rfl, D1.ex x3, upd_same, D1.ne hm, by rw [List.length_map]; omega, by rw [List.length_map]; omega, fun H3 x kx3 D3 hx => ?_⟩
      obtain ⟨c, hc, rfl⟩ := List.mem_map.mp hx
      have hcB : c ∈ B.map (·.1) := (pm.trans pn).mem_iff.mp hc
      have kxa := (Kx.of_ex x3).trans kx3
      have kr3 := krb.trans (D1.kr kxa)
      obtain ⟨ea, kvs, es0, kp, q1, r1, hE1, en1, hkp, hent⟩ := (hT.kr kr3).at_ okT hs0
      obtain ⟨vv, hvv, ⟨pe, rfl, hpe⟩, hin2, ty0, ys0, hm0, hout⟩ := hent c hcB
      have ht3 := kr3.dic ht
      refine ⟨_, rfl, _, rfl, t, _, rfl, dgetS ht3 q1, _, rfl, ea, _, rfl, dgetS r1 hvv, pe, _, rfl, hpe, rfl, _, _, rfl, _, _, rfl, rfl, ?_⟩
      obtain ⟨pk3, hr3, hP3⟩ := hPd.kr kr3
      obtain ⟨pv, hv, pp, pa, rfl, hpp, hpa⟩ := hP3.get _ hm0
      have hwl3 := kxa _ _ hwd hwl
      have hdn3 := kxa _ _ n1 hdn
      have ty2 := (ok.pr _ hm0).t2
      have ty2 : ty0 ≤ 2 := ty2
      refine ⟨_, rfl, .inl ⟨rfl, _, SqL.of hwl3⟩, _, rfl, _, rfl, _, rfl, _, rfl, pd, _, rfl, dgetS hr3 hv, pp, _, (0 : Int), _, rfl, rfl, hpp, rfl, _, rfl, d, dl, ty0, done, rfl, D3, hdn3, n1, by omega, by omega, fun H4 a org kx4 D4 ha0 ha ol oall => ?_⟩
      refine ⟨_, rfl, sz1000 (by show 3 ≤ 1000; decide), fun q hq => ?_⟩
      have kxb := kxa.trans kx4
      have x5 := Ex.new (o := .tup [V.str c, .ref a, .str (entOf TT s0 c).1]) hq
      have hq5 : (upd H4 q (.tup [V.str c, .ref a, .str (entOf TT s0 c).1])) q = some (.tup [V.str c, .ref a, .str (entOf TT s0 c).1]) := upd_same
      generalize upd H4 q (.tup [V.str c, .ref a, .str (entOf TT s0 c).1]) = H5 at x5 hq5 ⊢
      have D5 := D4.ex x5
      have kxc := kxb.trans (.of_ex x5)
      have hwl5 := kxc _ _ hwd hwl
      have hdn5 := kxc _ _ n1 hdn
      have vsl := hes.len
      refine ⟨wl, _, _, rfl, rfl, hwl5, szlt (by omega), ?_⟩
      have h6w : (upd H5 wl (.lst (vs ++ [.ref q]))) wl = some (.lst (vs ++ [.ref q])) := upd_same
      have h6d : (upd H5 wl (.lst (vs ++ [.ref q]))) dl = some (.lst (done.map V.int)) := by rw [upd_ne n2]; exact hdn5
      have kr6 : Kr Hb (upd H5 wl (.lst (vs ++ [.ref q]))) := (D1.kr kxc).trans (Kr.lst hwl5)
      have kr56 : Kr H5 (upd H5 wl (.lst (vs ++ [.ref q]))) := Kr.lst hwl5
      have D6 : Dice (upd H5 wl (.lst (vs ++ [.ref q]))) d := D5.upd hwd
      have kx6 : Kx d H (upd H5 wl (.lst (vs ++ [.ref q]))) := (kx.trans kxc).mut hw
      generalize upd H5 wl (.lst (vs ++ [.ref q])) = H6 at h6w h6d kr6 kr56 D6 kx6 ⊢
      have cst : PyData.strOk c = true := by
        obtain ⟨b, hb, eb⟩ := List.mem_map.mp hcB
        have eb : b.1 = c := eb
        rw [← eb]; exact ans_strOk (ok.ans b hb)
      have hEn : EnV K H6 (.ref q) (.cmd c org (entOf TT s0 c).1) := ⟨q, a, rfl, kr56.tup (SqT.of hq5), kr56.tup (ex_t x5 ha), fun x hx => (oall x hx).1, by omega, cst, outOk ok hm0 hout⟩
      have hes6 : EnsV K H6 (vs ++ [.ref q]) (es ++ [.cmd c org (entOf TT s0 c).1]) := (hes.kt kr6.kt).snoc hEn
      have hsh6 : ∀ e ∈ es ++ [.cmd c org (entOf TT s0 c).1], shortE e := fun e he => by
        rcases List.mem_append.mp he with h | h
        · exact hsh e h
        · rw [List.mem_singleton.mp h]; show org.length ≤ 2; omega
      have hok : okE B done c org (entOf TT s0 c).1 = true := by
        obtain ⟨pr, hf, hm, e0⟩ := find_at hcB
        unfold okE
        rw [hf]
        have : pr.2 = (ty0, ys0) := fst_uniq ok.nd (c := c) (by rw [← e0]; exact hm) hm0
        show (decide (org.length = pr.2.1) && (org.all (okOne done) && decide ((entOf TT s0 c).1 ∈ ("failed" : Str) :: pr.2.2))) = true
        rw [this, decide_eq_true ol, decide_eq_true hout, Bool.and_true, Bool.true_and, List.all_eq_true]
        exact fun x hx => (oall x hx).2
      have hW6 := isW_cmd hW hE hok
      have hE6 : wEnd (es ++ [.cmd c org (entOf TT s0 c).1]) [] 0 false = (if (entOf TT s0 c).1 ≠ "failed" then done ++ [(cntC es : Int)] else done, (cntC es : Int) + 1, decide ((entOf TT s0 c).1 ≠ "failed")) := by
        rw [wEnd_app, hE]; rfl
      have hc6 : (cntC (es ++ [.cmd c org (entOf TT s0 c).1]) : Int) = (cntC es : Int) + 1 := by
        rw [cntC_snoc]; rfl
      have hbe6 : behF TT (es ++ [.cmd c org (entOf TT s0 c).1]) st = some (entOf TT s0 c).2 := by
        rw [behF_app TT es _ st s0 hbe]
        show (if (entOf TT s0 c).1 = (entOf TT s0 c).1 then _ else none) = _
        rw [if_pos rfl]; rfl
      have l6 : (es ++ [En.cmd c org (entOf TT s0 c).1]).length ≤ 2 * i + 1 := by rw [List.length_append]; show es.length + 1 ≤ _; omega
      have hin2' := hin2
      generalize es ++ [En.cmd c org (entOf TT s0 c).1] = es2 at hes6 hsh6 hW6 hE6 hc6 hbe6 l6
      generalize (entOf TT s0 c).2 = s2 at hin2 hbe6 ⊢
      generalize vs ++ [V.ref q] = vs2 at h6w hes6 ⊢
      rw [← hc6] at hE6
      refine ⟨_, rfl, rfl, _, rfl, ?_⟩
      by_cases hof : (entOf TT s0 c).1 = "failed"
      · refine iteNT (by rw [hof]) ?_
        rw [if_neg (by simp [hof])] at hE6
        exact ⟨_, _, _, _, _, _, rfl, kx6, D6, n1, n2, hin2, done, vs2, es2, _, h6d, by omega, h6w, hes6, by omega, hsh6, hW6, hE6, hbe6⟩
      · refine iteNF (fun z => hof (V.str.inj z)) ?_
        rw [if_pos hof, show decide ((entOf TT s0 c).1 ≠ "failed") = true from decide_eq_true hof] at hE6
        refine ⟨_, rfl, _, rfl, wl, rfl, ⟨_, SqL.of h6w⟩, fun D hD => ?_⟩
        have v2l := hes6.len
        refine lc_filtN (w := walk_list (xs := vs2)) hD (by omega) (fun _ => rfl) (fun H7 e7 => ex_l e7 (SqL.of h6w)) (fun j => !isKept (es2.getD j .kept)) (fun _ => .int 1) (fun j x Hc Hd hj e y => ?_) (fun H7 e7 hl7 => ?_)
        · obtain ⟨rfl, hx⟩ := y
          have hj' : j < es2.length := by omega
          rw [getD_lt hj']
          have hEj := (hes6.at_ j x es2[j] hx (List.getElem?_eq_getElem hj')).kt (Kt.of_ex e)
          refine ⟨Ex.refl _, fun H8 e8 Q8 q8 => ?_, fun _ H8 e8 Q8 q8 => q8 H8 (Ex.refl _)⟩
          have q8 := q8 H8 (Ex.refl _)
          have hE8 := hEj.kt (Kt.of_ex e8)
          generalize es2[j] = ej at hE8 q8
          cases ej with
          | kept =>
            obtain ⟨q3, rfl, h3⟩ := hE8
            exact ⟨_, rfl, q3, _, rfl, .inr h3, rfl, _, rfl, q8⟩
          | cmd c3 org3 out3 =>
            obtain ⟨q3, a3, rfl, h3, _⟩ := hE8
            exact ⟨_, rfl, q3, _, rfl, .inr h3, rfl, _, rfl, q8⟩
        · have cl : (((List.range vs2.length).filter fun j => !isKept (es2.getD j .kept)).map fun _ => V.int 1).length = cntC es2 := by
            rw [List.length_map, v2l]; rfl
          refine ⟨D, _, rfl, .inl (SqL.of hl7), _, _, rfl, rfl, sz1000 (by show 1 ≤ 1000; decide), fun l1 hl1 => ?_⟩
          rw [cl]
          have x8 := e7.trans (Ex.new (o := .lst [V.int ((cntC es2 : Int) - 1)]) hl1)
          have h8 : (upd H7 l1 (.lst [V.int ((cntC es2 : Int) - 1)])) l1 = some (.lst [V.int ((cntC es2 : Int) - 1)]) := upd_same
          generalize upd H7 l1 (.lst [V.int ((cntC es2 : Int) - 1)]) = H8 at x8 h8 ⊢
          refine ⟨dl, l1, _, _, rfl, rfl, x8 _ _ h6d, h8, sz1000 (by rw [List.length_map]; show done.length + 1 ≤ 1000; omega), fun l2 hl2 => ?_⟩
          have x9 := x8.trans (Ex.new (o := .lst (done.map V.int ++ [V.int ((cntC es2 : Int) - 1)])) hl2)
          have h9 : (upd H8 l2 (.lst (done.map V.int ++ [V.int ((cntC es2 : Int) - 1)]))) l2 = some (.lst ((done ++ [(cntC es : Int)]).map V.int)) := by
            rw [upd_same, List.map_append, hc6]
            have : (cntC es : Int) + 1 - 1 = cntC es := by omega
            rw [this]; rfl
          have l2w : l2 ≠ wl := fun z => by rw [z, x8 _ _ h6w] at hl2; cases hl2
          have l2d := (D6.ex x8).ne hl2
          generalize upd H8 l2 (.lst (done.map V.int ++ [V.int ((cntC es2 : Int) - 1)])) = H9 at x9 h9 ⊢
          have D9 := D6.ex x9
          refine ⟨_, rfl, d, _, rfl, D9, by decide, by decide, fun H10 r kx10 D10 hr10 => ?_⟩
          have kxd := (Kx.of_ex x9).trans kx10
          have kr10 := D6.kr kxd
          have h10w := kxd _ _ hwd h6w
          have h10d := kx10 _ _ l2d h9
          have kx610 := kx6.trans kxd
          refine ⟨rfl, _, rfl, ?_⟩
          refine iteD (fun _ => ?_) (fun _ => ?_)
          · refine ⟨_, rfl, .inl ⟨rfl, _, SqL.of h10w⟩, sz1000 (by show 1 ≤ 1000; decide), fun q2 hq2 => ?_⟩
            have x11 := Ex.new (o := .tup [V.str "kept"]) hq2
            have h11 : (upd H10 q2 (.tup [V.str "kept"])) q2 = some (.tup [V.str "kept"]) := upd_same
            have hq2w : l2 ≠ wl := l2w
            generalize upd H10 q2 (.tup [V.str "kept"]) = H11 at x11 h11 ⊢
            have h11w := x11 _ _ h10w
            refine ⟨wl, _, _, rfl, rfl, h11w, szlt (by omega), ?_⟩
            have kr12 : Kr H11 (upd H11 wl (.lst (vs2 ++ [.ref q2]))) := Kr.lst h11w
            have kr612 : Kr H6 (upd H11 wl (.lst (vs2 ++ [.ref q2]))) := (kr10.trans (.of_ex x11)).trans kr12
            have h12w : (upd H11 wl (.lst (vs2 ++ [.ref q2]))) wl = some (.lst (vs2 ++ [.ref q2])) := upd_same
            have h12d : (upd H11 wl (.lst (vs2 ++ [.ref q2]))) l2 = some (.lst ((done ++ [(cntC es : Int)]).map V.int)) := by rw [upd_ne l2w]; exact x11 _ _ h10d
            have D12 := (D10.ex x11).upd (u := .lst (vs2 ++ [.ref q2])) hwd
            have kx12 := (kx610.trans (.of_ex x11)).mut (o := .lst (vs2 ++ [.ref q2])) hw
            generalize upd H11 wl (.lst (vs2 ++ [.ref q2])) = H12 at kr12 kr612 h12w h12d D12 kx12 ⊢
            obtain ⟨eb, kvb, esb, kpb, qb1, rb1, hEb, enb, hkpb, _⟩ := (hT.kr (hDi.kr kx12)).at_ okT hin2
            refine ⟨_, rfl, _, rfl, t, _, rfl, dgetS ((hDi.kr kx12).dic ht) qb1, eb, _, rfl, dgetS rb1 hEb.kept, ?_⟩
            refine ⟨_, _, _, _, _, _, rfl, kx12, D12, l2d, l2w, enb.kp, _, _, es2 ++ [.kept], false, h12d, by rw [List.length_append]; show done.length + 1 ≤ i + 1; omega, h12w, (hes6.kt kr612.kt).snoc (e := .kept) ⟨q2, rfl, kr12.tup (SqT.of h11)⟩, by rw [List.length_append]; show es2.length + 1 ≤ _; omega, fun e he => ?_, isW_kept hW6 hE6, ?_, ?_⟩
            · rcases List.mem_append.mp he with h | h
              · exact hsh6 e h
              · rw [List.mem_singleton.mp h]; trivial
            · rw [wEnd_app, hE6, cntC_snoc]; rfl
            · rw [behF_app TT es2 _ st s2 hbe6]
              show some (keptOf TT s2) = _
              rw [hkpb]
          · exact ⟨_, _, _, _, _, _, rfl, kx610, D10, l2d, l2w, hin2, _, vs2, es2, true, h10d, by rw [List.length_append]; show done.length + 1 ≤ i + 1; omega, h10w, hes6.kt kr10.kt, by omega, hsh6, hW6, hE6, hbe6⟩
    · obtain ⟨s0, dl, x7, x8, x9, x10, rfl, kx, D1, n1, n2, hs0, done, vs, es, op, hdn, dnl, hwl, hes, esl, hsh, hW, hE, hbe⟩ := p
      have esl : es.length ≤ 2 * many := by simpa using esl
      have vsl := hes.len
      refine ⟨_, rfl, wl, _, rfl, .inl ⟨SqL.of hwl, fun p hp => ?_⟩⟩
      have x5 := Ex.new (o := .tup vs) hp
      have h5 : (upd H4 p (.tup vs)) p = some (.tup vs) := upd_same
      generalize upd H4 p (.tup vs) = H5 at x5 h5 ⊢
      refine ⟨_, rfl, sz1000 (by show 2 ≤ 1000; decide), fun q hq => ?_⟩
      have x6 := x5.trans (Ex.new (o := .tup [V.ref p, .str s0]) hq)
      refine k _ q p es s0 (kx.trans (.of_ex x6)) (D1.ex x6) (SqT.of upd_same) ⟨vs, SqT.of (Ex.new hq _ _ h5), hes.kt (Kt.of_ex x6), by omega⟩ (by omega) hsh ?_ hs0
      unfold behind
      rw [if_pos hW]
      exact hbe
end Sk
namespace Sk
open PySem L2 KwX Evl RZ
/-! ### a work spoilt -/
def RowL (K : PySem.W.Frag) (H : Hp) (n : Nat) (xs : List V) : Prop := xs = [.str "kept"] ∨ ∃ (c : Str) (a : Addr) (org : List V) (out : Str), xs = [.str c, .ref a, .str out] ∧ SqT K H a org ∧ (∀ x ∈ org, okV x ∧ sOk x = true) ∧ org.length ≤ n ∧ PyData.strOk c = true ∧ PyData.strOk out = true
theorem RowL.kt {K : PySem.W.Frag} {H H' : Hp} {n : Nat} {xs : List V} (k : Kt K H H') (h : RowL K H n xs) : RowL K H' n xs := by
  rcases h with h | ⟨c, a, org, out, e, ha, r⟩
  · exact .inl h
  · exact .inr ⟨c, a, org, out, e, k _ _ ha, r⟩
theorem RowL.hd {K : PySem.W.Frag} {H : Hp} {n : Nat} {xs : List V} (h : RowL K H n xs) : ∃ s r, xs = .str s :: r := by
  rcases h with h | ⟨c, a, org, out, e, _⟩
  · exact ⟨_, _, h⟩
  · exact ⟨_, _, e⟩
def RowV (K : PySem.W.Frag) (H : Hp) (n : Nat) (v : V) : Prop := ∃ r xs, v = .ref r ∧ H r = some (.lst xs) ∧ RowL K H n xs
theorem RowV.ex {K : PySem.W.Frag} {H H' : Hp} {n : Nat} {v : V} (h : RowV K H n v) (e : Ex H H') : RowV K H' n v := let ⟨r, xs, q, h1, h2⟩ := h; ⟨r, xs, q, e _ _ h1, h2.kt (Kt.of_ex e)⟩
theorem RowV.le {K : PySem.W.Frag} {H : Hp} {n m : Nat} {v : V} (h : RowV K H n v) (l : n ≤ m) : RowV K H m v := by
  obtain ⟨r, xs, q, h1, h2⟩ := h
  refine ⟨r, xs, q, h1, ?_⟩
  rcases h2 with h | ⟨c, a, org, out, e, ha, hx, hn, r⟩
  · exact .inl h
  · exact .inr ⟨c, a, org, out, e, ha, hx, by omega, r⟩
theorem RowV.kx {K : PySem.W.Frag} {H H' : Hp} {n : Nat} {v : V} {d : Addr} (h : RowV K H n v) (D : Dice H d) (k : Kx d H H') : RowV K H' n v := by
  obtain ⟨r, xs, q, h1, h2⟩ := h
  refine ⟨r, xs, q, k _ _ ?_ h1, h2.kt (D.kr k).kt⟩
  rintro rfl
  obtain ⟨a, b, c, e⟩ := D
  obtain ⟨s, t, e2⟩ := h2.hd
  rw [h1, e2] at e
  cases e
def AllRef (vs : List V) : Prop := ∀ v ∈ vs, ∃ r, v = V.ref r
theorem RowV.mut {K : PySem.W.Frag} {H : Hp} {n : Nat} {v : V} {l : Addr} {vs ws : List V} (h : RowV K H n v) (hl : H l = some (.lst vs)) (hv : AllRef vs) : RowV K (upd H l (.lst ws)) n v := by
  obtain ⟨r, xs, q, h1, h2⟩ := h
  refine ⟨r, xs, q, ?_, h2.kt (Kr.lst hl).kt⟩
  rw [upd_ne]
  · exact h1
  · rintro rfl
    rw [hl] at h1
    obtain ⟨s, t, e2⟩ := h2.hd
    cases h1
    obtain ⟨r', e3⟩ := hv (.str s) (by rw [e2]; exact List.mem_cons_self ..)
    cases e3
structure Rows (K : PySem.W.Frag) (d : Addr) (H0 H : Hp) (n : Nat) (l : Addr) (vs : List V) : Prop where
  kx : Kx d H0 H
  di : Dice H d
  l0 : H0 l = none
  ld : l ≠ d
  hl : H l = some (.lst vs)
  rows : ∀ v ∈ vs, RowV K H n v
theorem Rows.ref {K : PySem.W.Frag} {d : Addr} {H0 H : Hp} {n : Nat} {l : Addr} {vs : List V} (h : Rows K d H0 H n l vs) : AllRef vs := fun v hv => let ⟨r, _, e, _⟩ := h.rows v hv; ⟨r, e⟩
theorem Rows.go {K : PySem.W.Frag} {d : Addr} {H0 H H' : Hp} {n : Nat} {l : Addr} {vs : List V} (h : Rows K d H0 H n l vs) (k : Kx d H H') (D : Dice H' d) : Rows K d H0 H' n l vs :=
  ⟨h.kx.trans k, D, h.l0, h.ld, k _ _ h.ld h.hl, fun v hv => (h.rows v hv).kx h.di k⟩
theorem Rows.le {K : PySem.W.Frag} {d : Addr} {H0 H : Hp} {n m : Nat} {l : Addr} {vs : List V} (h : Rows K d H0 H n l vs) (q : n ≤ m) : Rows K d H0 H m l vs := ⟨h.kx, h.di, h.l0, h.ld, h.hl, fun v hv => (h.rows v hv).le q⟩
theorem Rows.row_ne {K : PySem.W.Frag} {d : Addr} {H0 H : Hp} {n m : Nat} {l r : Addr} {vs xs : List V} (h : Rows K d H0 H n l vs) (hr : H r = some (.lst xs)) (hx : RowL K H m xs) : r ≠ d := by
  rintro rfl
  obtain ⟨a, b, c, e⟩ := h.di
  obtain ⟨s, t, e2⟩ := hx.hd
  rw [hr, e2] at e
  cases e
theorem skippedOk : PyData.strOk "skipped" = true := by decide +kernel
/-- another list of rows -/
theorem Rows.new {K : PySem.W.Frag} {d : Addr} {H0 H H' : Hp} {n : Nat} {l l' : Addr} {vs ws : List V} (h : Rows K d H0 H n l vs) (hD0 : Dice H0 d) (e : Ex H H') (hl : H' l' = none) (hw : ∀ v ∈ ws, RowV K H' n v) : Rows K d H0 (upd H' l' (.lst ws)) n l' ws := by
  have x := Ex.new (o := .lst ws) hl
  exact ⟨h.kx.trans (.of_ex (e.trans x)), h.di.ex (e.trans x), hD0.free (h.di.ex e) (h.kx.trans (.of_ex e)) hl, (h.di.ex e).ne hl, upd_same, fun v hv => (hw v hv).ex x⟩
/-- one row put -/
theorem Rows.put {K : PySem.W.Frag} {d : Addr} {H0 H H' : Hp} {n m : Nat} {l r : Addr} {vs xs : List V} (h : Rows K d H0 H n l vs) (hnm : n ≤ m) (k : Kx d H H') (D : Dice H' d) (hr : H' r = none) (hx : RowL K H' m xs) (j : Nat) :
    Rows K d H0 (upd (upd H' r (.lst xs)) l (.lst (vs.set j (.ref r)))) m l (vs.set j (.ref r)) := by
  have x := Ex.new (o := .lst xs) hr
  have hl' := x _ _ (k _ _ h.ld h.hl)
  have hrr : (upd H' r (.lst xs)) r = some (.lst xs) := upd_same
  have kk : Kx d H (upd H' r (.lst xs)) := k.trans (.of_ex x)
  have g := h.go kk (D.ex x)
  refine ⟨g.kx.mut h.l0, g.di.upd h.ld, h.l0, h.ld, upd_same, fun v hv => ?_⟩
  rcases List.mem_or_eq_of_mem_set hv with hv | hv
  · exact ((g.rows v hv).mut hl' g.ref).le hnm
  · rw [hv]
    have : RowV K (upd H' r (.lst xs)) m (.ref r) := ⟨r, xs, rfl, hrr, hx.kt (Kt.of_ex x)⟩
    exact this.mut hl' g.ref
theorem cutV_mem {xs : List V} {lo hi : Option Int} {v : V} (h : v ∈ cutV xs lo hi) : v ∈ xs := List.mem_of_mem_drop (List.mem_of_mem_take h)
theorem ixN_nat {n j : Nat} (h : j < n) : ixN n (j : Int) = some j := by
  unfold ixN
  rw [if_pos (by omega), if_pos (by omega)]
  simp
theorem seq_use {A B : TS} {D : Ends} {σ : L2.St} {H : Hp} (I : L2.St → Hp → Prop) (hA : ∀ R : L2.St → Hp → Prop, (∀ σ' H', I σ' H' → R σ' H') → A { D with nx := R } σ H) (hB : ∀ σ' H', I σ' H' → B D σ' H') : tSeq A B D σ H := hA _ hB
abbrev rLstQ (K : PySem.W.Frag) : List V → Hp → VK → Prop := fun xs H Q => ∃ p ys, xs = [.ref p] ∧ (SqL K H p ys ∨ SqT K H p ys) ∧ ∀ l, H l = none → Q (.ref l) (upd H l (.lst ys))
abbrev rTupQ (K : PySem.W.Frag) : List V → Hp → VK → Prop := fun xs H Q => ∃ p ys, xs = [.ref p] ∧ ((SqL K H p ys ∧ ∀ l, H l = none → Q (.ref l) (upd H l (.tup ys))) ∨ (SqT K H p ys ∧ Q (.ref p) H))
theorem dpEns {K : PySem.W.Frag} {H : Hp} : ∀ {vs : List V} {es : List En}, vs.length = es.length → (∀ (i : Nat) (v : V) (e : En), vs[i]? = some v → es[i]? = some e → EnV K H v e) → DpAll K H vs (es.map dE)
  | [], [], _, _ => .nil
  | [], _ :: _, l, _ => by simp at l
  | _ :: _, [], l, _ => by simp at l
  | v :: vs, e :: es, l, h => .cons (dpE (h 0 v e rfl rfl)) (dpEns (by simpa using l) fun i v e a b => h (i + 1) v e (by simpa using a) (by simpa using b))
theorem canEns {K : PySem.W.Frag} {H : Hp} : ∀ {vs : List V} {es : List En}, vs.length = es.length → (∀ (i : Nat) (v : V) (e : En), vs[i]? = some v → es[i]? = some e → EnV K H v e) → PyData.canLayAll0 (es.map dE) = true
  | [], [], _, _ => by simp only [List.map_nil, PyData.canLayAll0]
  | [], _ :: _, l, _ => by simp at l
  | _ :: _, [], l, _ => by simp at l
  | v :: vs, e :: es, l, h => by
    simp only [List.map_cons, PyData.canLayAll0, Bool.and_eq_true]
    exact ⟨canE (h 0 v e rfl rfl), canEns (by simpa using l) fun i v e a b => h (i + 1) v e (by simpa using a) (by simpa using b)⟩
theorem depEns : ∀ es : List En, PyData.depthAll (es.map dE) ≤ 2
  | [] => by simp only [List.map_nil, PyData.depthAll]; decide
  | e :: r => by
    simp only [List.map_cons, PyData.depthAll]
    exact Nat.max_le.mpr ⟨depE e, depEns r⟩
theorem shapEns {K : PySem.W.Frag} {H : Hp} {vs : List V} {es : List En} (h : EnsV K H vs es) : SeqAt.shaped (.tuple (es.map dE)) = true := by
  unfold SeqAt.shaped
  rw [Bool.and_eq_true]
  refine ⟨by simp only [PyData.canLay0]; exact canEns h.len h.at_, decide_eq_true ?_⟩
  have := depEns es
  simp only [PyData.depth]
  omega
theorem shapNil : SeqAt.shaped (.tuple []) = true := by decide +kernel
theorem eqvEns (es : List En) : PyData.eqv (.tuple (es.map dE)) (.tuple []) = decide (es = []) := by
  cases es <;> simp [PyData.eqv, PyData.eqvAll]
theorem rows_en {K : PySem.W.Frag} {H : Hp} {v : V} {n : Nat} {e : En} (h : EnV K H v e) (hs : shortE e) (hn : 2 ≤ n) : ∃ q xs, v = .ref q ∧ SqT K H q xs ∧ RowL K H n xs := by
  cases e with
  | kept => obtain ⟨q, e1, h1⟩ := h; exact ⟨q, _, e1, h1, .inl rfl⟩
  | cmd c org out =>
    obtain ⟨q, a, e1, h1, ha, hx, hl, hc, ho⟩ := h
    exact ⟨q, _, e1, h1, .inr ⟨c, a, org, out, rfl, ha, hx, Nat.le_trans hs hn, hc, ho⟩⟩
def sp_spoilt (K : PySem.W.Frag) : Sp := fun vs H Q _ => ∃ (d pd p : Addr) (B : Bk) (es : List En), vs = [.ref d, .ref pd, .ref p] ∧ Dice H d ∧ PDic K H pd B ∧ BkOk B ∧ WorkAt K H p es ∧ es.length ≤ 120 ∧ (∀ e ∈ es, shortE e) ∧
  ∀ (H' : Hp) (q : Addr) (es' : List En), Kx d H H' → Dice H' d → WorkAt K H' q es' → Q (.ref q) H'
abbrev N_spoilt : List Str := ["_law_dice_here", "_law_pairs_here", "_law_work", "_law_rows", "_law_entry", "_law_at", "_law_way", "_law_word_here", "_law_some", "_law_row"]
theorem sc_spoilt : FnScope N_spoilt ["_law_dice_here", "_law_pairs_here", "_law_work"] (defScope (topS 59)) := ⟨rfl, rfl, rfl, by decide +kernel, rfl, by decide +kernel, by decide +kernel⟩
theorem ok_spoilt {P : Program} {w : World} {K : PySem.W.Frag} {mg : Str → Option Value} {base : Heap} {CB CS CI : Addr} (T : Txt K mg CB CS CI) : Cl P w K mg base CX0 4 "_law_spoilt_work" ["_law_dice_here", "_law_pairs_here", "_law_work"] (sp_spoilt K) := T.f_spoilt.cl fun f fd F => by
  refine F.ok sc_spoilt (fun vs H Q E h => ?_) (fun cdv A outer s H vs Q E hr h => ?_)
  · obtain ⟨d, pd, p, B, es, rfl, _⟩ := h
    rfl
  · obtain ⟨d, pd, p, B, es, rfl, hDi, hPd, ok, ⟨vs, hp, hes, _⟩, l120, hsh, k⟩ := h
    have hu := hu_of hr
    refine ⟨_, (pss_cons (ps_set (i := 3) sc_spoilt.nd rfl (Or.inl rfl) (pe_op op_cat (pe_lc (te := tCB (rLstQ K) (tCons (tVar 4) tNil)) (own := [("_law_entry", 4)]) (g := gName 4) (tt := tYes) rfl sc_spoilt.nd (pi_tup (pv 2)) (blkOk_by (N := N_spoilt) (sc := defScope (topS 59)) (by decide +kernel)) (fun _ _ _ _ _ => (pg_name (i := 4) sc_spoilt.nd rfl (Or.inl rfl))) (fun _ _ _ _ _ => pts_nil) (fun _ _ _ _ _ => (pe_callTy call_list_of (by rfl) T.zlist bt_list (pa_cons (pv 4) pa_nil)))) (pe_op op_rep (pe_lst (pa_cons (pe_lst (pa_cons pe_str pa_nil)) pa_nil)) (pe_callTy call_int1 (by rfl) T.zint bt_int (pa_cons (pe_cmpR (op_eqD hr.units) (pv 2) (pe_tup pa_nil) (nomark _)) pa_nil)))))
      (pss_cons (ps_set (i := 5) sc_spoilt.nd rfl (Or.inl rfl) (pc0 (ok_roll T) hr (pa_cons (pv 0) (pa_cons (pe_callB call_len_seq (by rfl) T.zlen bt_len (pa_cons (pv 3) pa_nil)) pa_nil))))
      (pss_cons (ps_set (i := 6) sc_spoilt.nd rfl (Or.inl rfl) (pc0 (ok_roll T) hr (pa_cons (pv 0) (pa_cons pe_int pa_nil))))
      (pss_cons (ps_set (i := 7) sc_spoilt.nd rfl (Or.inl rfl) (pc0 (ok_one_of T) hr (pa_cons (pv 0) (pa_cons (pe_callB (call_sortedD rfl) (by rfl) T.zsorted bt_sorted (pa_cons (pv 1) pa_nil)) pa_nil))))
      (pss_cons (ps_if (pt_cmpR op_eq (pv 6) pe_int (nomark _)) (pss_one (ps_set (i := 3) sc_spoilt.nd rfl (Or.inl rfl) (pe_op op_cat (pe_slice sl_list (pv 3) po_none (po_some (pv 5))) (pe_slice sl_list (pv 3) (po_some (pe_op op_add (pv 5) pe_int)) po_none)))) pss_nil)
      (pss_cons (ps_if (pt_cmpR op_eq (pv 6) pe_int (nomark _)) (pss_one (ps_set (i := 3) sc_spoilt.nd rfl (Or.inl rfl) (pe_op op_cat (pe_op op_cat (pe_slice sl_list (pv 3) po_none (po_some (pv 5))) (pe_lst (pa_cons (pe_ix ix_list (pv 3) (pv 5) (fun _ _ => rfl)) pa_nil))) (pe_slice sl_list (pv 3) (po_some (pv 5)) po_none)))) pss_nil)
      (pss_cons (ps_if (pt_cmpR op_eq (pv 6) pe_int (nomark _)) (pss_one (ps_set (i := 3) sc_spoilt.nd rfl (Or.inl rfl) (pe_op op_cat (pe_op op_cat (pe_slice sl_list (pv 3) po_none (po_some (pv 5))) (pe_lst (pa_cons (pe_lst (pa_cons pe_str pa_nil)) pa_nil))) (pe_slice sl_list (pv 3) (po_some (pv 5)) po_none)))) pss_nil)
      (pss_cons (ps_if (PW.pt (pw_and (pt_cmpR op_eq (pv 6) pe_int (nomark _)) (pw_and1 (pt_cmpR op_gt (pv 5) pe_int (nomark _))))) (pss_one (ps_set (i := 3) sc_spoilt.nd rfl (Or.inl rfl) (pe_op op_cat (pe_op op_cat (pe_slice sl_list (pv 3) po_none (po_some (pe_op op_sub (pv 5) pe_int))) (pe_lst (pa_cons (pe_ix ix_list (pv 3) (pv 5) (fun _ _ => rfl)) (pa_cons (pe_ix ix_list (pv 3) (pe_op op_sub (pv 5) pe_int) (fun _ _ => rfl)) pa_nil)))) (pe_slice sl_list (pv 3) (po_some (pe_op op_add (pv 5) pe_int)) po_none)))) pss_nil)
      (pss_cons (ps_set (i := 5) sc_spoilt.nd rfl (Or.inl rfl) (pe_callB (call_min2 rfl) (by rfl) T.zmin bt_min (pa_cons (pv 5) (pa_cons (pe_op op_sub (pe_callB call_len_seq (by rfl) T.zlen bt_len (pa_cons (pv 3) pa_nil)) pe_int) pa_nil))))
      (pss_cons (ps_if (PW.pt (pw_and (pt_cmpR op_eq (pv 6) pe_int (nomark _)) (pw_and1 (pt_cmpR op_eq (pe_callB call_len_seq (by rfl) T.zlen bt_len (pa_cons (pe_ix ix_list (pv 3) (pv 5) (fun _ _ => rfl)) pa_nil)) pe_int (nomark _))))) (pss_one (ps_asg (pe_lst (pa_cons (pe_ix ix_list (pe_ix ix_list (pv 3) (pv 5) (fun _ _ => rfl)) pe_int (fun _ _ => rfl)) (pa_cons (pe_ix ix_list (pe_ix ix_list (pv 3) (pv 5) (fun _ _ => rfl)) pe_int (fun _ _ => rfl)) (pa_cons (pc0 (ok_one_of T) hr (pa_cons (pv 0) (pa_cons (pe_op op_cat (pc0 (ok_loutcomes T) hr (pa_cons (pv 1) (pa_cons (pv 7) pa_nil))) (pe_lst (pa_cons pe_str (pa_cons pe_str pa_nil)))) pa_nil))) pa_nil)))) (pg_sub (pv 3) (pv 5) set_list))) pss_nil)
      (pss_cons (ps_if (PW.pt (pw_and (pt_cmpR op_eq (pv 6) pe_int (nomark _)) (pw_and1 (pt_cmpR op_eq (pe_callB call_len_seq (by rfl) T.zlen bt_len (pa_cons (pe_ix ix_list (pv 3) (pv 5) (fun _ _ => rfl)) pa_nil)) pe_int (nomark _))))) (pss_cons (ps_set (i := 8) sc_spoilt.nd rfl (Or.inl rfl) (pc0 (ok_origins T) hr (pa_cons (pv 0) (pa_cons (pe_op op_add (pe_callB call_len_seq (by rfl) T.zlen bt_len (pa_cons (pe_ix ix_list (pe_ix ix_list (pv 3) (pv 5) (fun _ _ => rfl)) pe_int (fun _ _ => rfl)) pa_nil)) (pe_callTy call_int1 (by rfl) T.zint bt_int (pa_cons (pe_cmpR op_eq (pc0 (ok_roll T) hr (pa_cons (pv 0) (pa_cons pe_int pa_nil))) pe_int (nomark _)) pa_nil))) (pa_cons (pe_listRg rfl rfl T.zlist (prg_1 rfl T.zrange (pe_op op_add (pv 5) pe_int))) pa_nil)))))
      (pss_one (ps_asg (pe_lst (pa_cons (pe_ix ix_list (pe_ix ix_list (pv 3) (pv 5) (fun _ _ => rfl)) pe_int (fun _ _ => rfl)) (pa_cons (pv 8) (pa_cons (pe_ix ix_list (pe_ix ix_list (pv 3) (pv 5) (fun _ _ => rfl)) pe_int (fun _ _ => rfl)) pa_nil)))) (pg_sub (pv 3) (pv 5) set_list)))) pss_nil)
      (pss_cons (ps_if (PW.pt (pw_and (pt_cmpR op_eq (pv 6) pe_int (nomark _)) (pw_and1 (pt_cmpR op_eq (pe_callB call_len_seq (by rfl) T.zlen bt_len (pa_cons (pe_ix ix_list (pv 3) (pv 5) (fun _ _ => rfl)) pa_nil)) pe_int (nomark _))))) (pss_one (ps_asg (pe_lst (pa_cons (pv 7) (pa_cons (pe_ix ix_list (pe_ix ix_list (pv 3) (pv 5) (fun _ _ => rfl)) pe_int (fun _ _ => rfl)) (pa_cons (pe_ix ix_list (pe_ix ix_list (pv 3) (pv 5) (fun _ _ => rfl)) pe_int (fun _ _ => rfl)) pa_nil)))) (pg_sub (pv 3) (pv 5) set_list))) pss_nil)
      (pss_one (ps_ret (pe_callTy call_tuple_of (by rfl) T.ztuple bt_tuple (pa_cons (pe_lc (te := tCB (rTupQ K) (tCons (tVar 9) tNil)) (own := [("_law_row", 9)]) (g := gName 9) (tt := tYes) rfl sc_spoilt.nd (pi_list (pv 3)) (blkOk_by (N := N_spoilt) (sc := defScope (topS 59)) (by decide +kernel)) (fun _ _ _ _ _ => (pg_name (i := 9) sc_spoilt.nd rfl (Or.inl rfl))) (fun _ _ _ _ _ => pts_nil) (fun _ _ _ _ _ => (pe_callTy call_tuple_of (by rfl) T.ztuple bt_tuple (pa_cons (pv 9) pa_nil)))) pa_nil)))))))))))))))), ?_⟩
    have vl := hes.len
    have b1 := ok.n1
    have b4 := ok.n4
    refine seq_use (fun σ' H' => ∃ l ws, σ' = [some (.ref d), some (.ref pd), some (.ref p), some (.ref l), none, none, none, none, none, none] ∧ Rows K d H H' 2 l ws ∧ 1 ≤ ws.length ∧ ws.length ≤ 121) (fun R hR => ?_) (fun σ1 H1 hI => ?_)
    · skip
      refine ⟨_, rfl, p, rfl, ⟨_, hp⟩, fun D hD => ?_⟩
      have hDd := hDi.ne hD
      refine lc_it (w := walk_tup (xs := vs)) (fun i H' => Ex H H' ∧ ∃ ws, H' D = some (.lst ws) ∧ ws.length = i ∧ ∀ v ∈ ws, RowV K H' 2 v)
        ⟨Ex.new hD, [], upd_same, rfl, fun _ h => nomatch h⟩ (fun i H' _ p => ex_t p.1 hp) (fun i x Ha Hb hi p y => ?_) (fun H1 p => ?_)
      · obtain ⟨rfl, hx⟩ := y
        obtain ⟨e, ws, hDl, wl, hrows⟩ := p
        have hi' : i < es.length := by omega
        have hE := (hes.at_ i x es[i] hx (List.getElem?_eq_getElem hi')).kt (Kt.of_ex e)
        obtain ⟨q, xs, rfl, hq, hxs⟩ := rows_en hE (hsh _ (List.getElem_mem hi')) (Nat.le_refl 2)
        refine ⟨rfl, ?_⟩
        refine tyes ?_
        refine ⟨_, rfl, q, xs, rfl, .inr hq, fun r hr0 => ?_⟩
        have xr := Ex.new (o := .lst xs) hr0
        have hrr : (upd Hb r (.lst xs)) r = some (.lst xs) := upd_same
        generalize upd Hb r (.lst xs) = H2 at xr hrr ⊢
        have hD2 := xr _ _ hDl
        have ref : AllRef ws := fun v hv => let ⟨r, _, e, _⟩ := hrows v hv; ⟨r, e⟩
        refine ⟨_, hD2, szlt (by omega), Ex.mut (e.trans xr) hD, _, upd_same, by rw [List.length_append, wl]; rfl, fun v hv => ?_⟩
        rcases List.mem_append.mp hv with h | h
        · exact ((hrows v h).ex xr).mut hD2 ref
        · rw [List.mem_singleton.mp h]
          have : RowV K H2 2 (.ref r) := ⟨r, xs, rfl, hrr, hxs.kt (Kt.of_ex xr)⟩
          exact this.mut hD2 ref
      · obtain ⟨e, ws, hDl, wl, hrows⟩ := p
        have hD0 : H D = none := hD
        have ref : AllRef ws := fun v hv => let ⟨r, _, e, _⟩ := hrows v hv; ⟨r, e⟩
        refine ⟨sz1000 (by show 1 ≤ 1000; decide), fun r0 hr0 => ?_⟩
        have y0 := Ex.new (o := .lst [V.str "kept"]) hr0
        have h0 : (upd H1 r0 (.lst [V.str "kept"])) r0 = some (.lst [V.str "kept"]) := upd_same
        generalize upd H1 r0 (.lst [V.str "kept"]) = H2 at y0 h0 ⊢
        refine ⟨sz1000 (by show 1 ≤ 1000; decide), fun r1 hr1 => ?_⟩
        have y1 := y0.trans (Ex.new (o := .lst [V.ref r0]) hr1)
        have h01 := Ex.new (o := .lst [V.ref r0]) hr1 _ _ h0
        have h1 : (upd H2 r1 (.lst [V.ref r0])) r1 = some (.lst [V.ref r0]) := upd_same
        generalize upd H2 r1 (.lst [V.ref r0]) = H3 at y1 h01 h1 ⊢
        refine ⟨_, rfl, sz1000 (by show 0 ≤ 1000; decide), fun t0 ht0 => ?_⟩
        have y2 := y1.trans (Ex.new (o := .tup []) ht0)
        have h02 := Ex.new (o := .tup []) ht0 _ _ h01
        have h12 := Ex.new (o := .tup []) ht0 _ _ h1
        have h2 : (upd H3 t0 (.tup [])) t0 = some (.tup []) := upd_same
        generalize upd H3 t0 (.tup []) = H4 at y2 h02 h12 h2 ⊢
        have e4 := e.trans y2
        have hes4 := hes.kt (Kt.of_ex e4)
        refine ⟨.tuple (es.map dE), .tuple [], .tup (ex_t e4 hp) (dpEns hes4.len hes4.at_), .tup (SqT.of h2) .nil, shapEns hes4, shapNil, ?_⟩
        rw [eqvEns]
        have rows4 : ∀ v ∈ ws, RowV K H4 2 v := fun v hv => (hrows v hv).ex y2
        have wl2 : ws.length = es.length := by omega
        by_cases hn : es = []
        · rw [decide_eq_true hn]
          refine .inr ⟨_, rfl, r1, _, _, rfl, rfl, h12, by decide, by decide, sz1000 (by show 1 * 1 ≤ 1000; decide), fun r2 hr2 => ?_⟩
          have y3 := y2.trans (Ex.new (o := .lst (List.replicate (if true = true then (1 : Int) else 0).toNat [V.ref r0]).flatten) hr2)
          refine ⟨D, r2, _, _, rfl, rfl, y3 _ _ hDl, upd_same, sz1000 (by show ws.length + 1 ≤ 1000; omega), fun l hl => ?_⟩
          have x8 := Ex.new (o := .lst (List.replicate (if true = true then (1 : Int) else 0).toNat [V.ref r0]).flatten) hr2
          have e5 := e.trans y3
          refine hR _ _ ⟨l, _, rfl, ⟨.of_ex (e5.trans (Ex.new hl)), hDi.ex (e5.trans (Ex.new hl)), fresh_back e5 hl, (hDi.ex e5).ne hl, upd_same, fun v hv => ?_⟩, by rw [List.length_append]; show 1 ≤ ws.length + 1; omega, by rw [List.length_append]; show ws.length + 1 ≤ 121; omega⟩
          rcases List.mem_append.mp hv with h | h
          · exact (rows4 v h).ex (x8.trans (Ex.new hl))
          · have : v = .ref r0 := List.mem_singleton.mp h
            rw [this]
            exact ⟨r0, _, rfl, (x8.trans (Ex.new hl)) _ _ h02, .inl rfl⟩
        · rw [decide_eq_false hn]
          have : 1 ≤ es.length := by
            cases es with
            | nil => exact absurd rfl hn
            | cons a b => exact Nat.succ_pos _
          refine .inr ⟨_, rfl, r1, _, _, rfl, rfl, h12, by decide, by decide, sz1000 (by show 1 * 0 ≤ 1000; decide), fun r2 hr2 => ?_⟩
          have x8 := Ex.new (o := .lst (List.replicate (if false = true then (1 : Int) else 0).toNat [V.ref r0]).flatten) hr2
          have y3 := y2.trans x8
          refine ⟨D, r2, _, _, rfl, rfl, y3 _ _ hDl, upd_same, sz1000 (by show ws.length + 0 ≤ 1000; omega), fun l hl => ?_⟩
          have e5 := e.trans y3
          refine hR _ _ ⟨l, _, rfl, ⟨.of_ex (e5.trans (Ex.new hl)), hDi.ex (e5.trans (Ex.new hl)), fresh_back e5 hl, (hDi.ex e5).ne hl, upd_same, fun v hv => ?_⟩, by rw [List.length_append]; show 1 ≤ ws.length + 0; omega, by rw [List.length_append]; show ws.length + 0 ≤ 121; omega⟩
          rcases List.mem_append.mp hv with h | h
          · exact (rows4 v h).ex (x8.trans (Ex.new hl))
          · exact nomatch (show v ∈ ([] : List V) from h)
    obtain ⟨l, ws, rfl, hR1, w1, w121⟩ := hI
    refine ⟨_, rfl, _, rfl, l, _, rfl, .inl (SqL.of hR1.hl), d, _, rfl, hR1.di, by omega, by omega, fun H2 at0 kx2 D2 hat => ?_⟩
    have hR2 := hR1.go kx2 D2
    refine ⟨_, rfl, d, _, rfl, D2, by decide, by decide, fun H3 way kx3 D3 hway => ?_⟩
    have hR3 := hR2.go kx3 D3
    obtain ⟨pk, hr1, hP⟩ := hPd.kr (hDi.kr hR3.kx)
    obtain ⟨ns, en, pn⟩ := hP.ks
    have pl := hP.len
    have nl : ns.length = pk.length := by
      have := congrArg List.length en
      simpa using this.symm
    refine ⟨_, rfl, _, rfl, pd, pk, ns, rfl, hr1, en, by omega, fun ys m pm _ hm => ?_⟩
    have x4 := Ex.new (o := .lst (ys.map V.str)) hm
    have yl : ys.length = ns.length := pm.length_eq
    refine ⟨d, m, _, rfl, D3.ex x4, upd_same, D3.ne hm, by rw [List.length_map]; omega, by rw [List.length_map]; omega, fun H5 x kx5 D5 hx => ?_⟩
    obtain ⟨wd, hwd, rfl⟩ := List.mem_map.mp hx
    have hwB : wd ∈ B.map (·.1) := (pm.trans pn).mem_iff.mp hwd
    have hR5 := hR3.go ((Kx.of_ex x4).trans kx5) D5
    have hat0 : at0 < ws.length := by omega
    have hway7 : way < 7 := by omega
    -- the four ways that lay the rows anew
    show tSeq (tIfS (tTest (tOp rEq (tVar 6) (tC (V.int 0)))) _ _) _ _ _ _
    refine seq_use (fun σ' H' => ∃ l ws x4, σ' = [some (.ref d), some (.ref pd), some (.ref p), some (.ref l), x4, some (.int at0), some (.int way), some (.str wd), none, none] ∧ Rows K d H H' 2 l ws ∧ (way ≠ 0 → 1 ≤ ws.length) ∧ ws.length ≤ 300 ∧ (1 ≤ way → at0 < ws.length ∧ ws.length ≤ 121)) (fun R hR => ?_) (fun σ1 H1 hI => ?_)
    · refine ⟨_, rfl, rfl, _, rfl, ?_⟩
      refine iteD (fun h => ?_) (fun h => hR _ _ ⟨l, ws, _, rfl, hR5, fun _ => w1, by omega, fun _ => ⟨hat0, w121⟩⟩)
      have hw0 : way = 0 := by have := V.int.inj h; omega
      refine ⟨_, rfl, _, rfl, _, rfl, l, _, rfl, SqL.of hR5.hl, fun p1 hp1 => ?_⟩
      have y1 := Ex.new (o := .lst (cutV ws none (some at0))) hp1
      refine ⟨_, rfl, _, rfl, _, _, rfl, rfl, _, rfl, l, _, rfl, SqL.of (y1 _ _ hR5.hl), fun p2 hp2 => ?_⟩
      have y2 := y1.trans (Ex.new (o := .lst (cutV ws (some ((at0 : Int) + 1)) none)) hp2)
      have c1 := cutV_length ws none (some at0)
      have c2 := cutV_length ws (some ((at0 : Int) + 1)) none
      refine ⟨p1, p2, _, _, rfl, rfl, Ex.new hp2 _ _ upd_same, upd_same, sz1000 (by omega), fun p3 hp3 => ?_⟩
      refine hR _ _ ⟨p3, _, _, rfl, hR5.new hDi y2 hp3 (fun v hv => ?_), fun z => absurd hw0 z, by rw [List.length_append]; omega, fun z => by omega⟩
      rcases List.mem_append.mp hv with h | h
      · exact (hR5.rows v (cutV_mem h)).ex y2
      · exact (hR5.rows v (cutV_mem h)).ex y2
    clear hR1 hR2 hR3 hR5 w1 w121 hat hat0
    obtain ⟨l, ws, x4, rfl, hR1, w1, w3, w4⟩ := hI
    show tSeq (tIfS (tTest (tOp rEq (tVar 6) (tC (V.int 1)))) _ _) _ _ _ _
    refine seq_use (fun σ' H' => ∃ l ws x4, σ' = [some (.ref d), some (.ref pd), some (.ref p), some (.ref l), x4, some (.int at0), some (.int way), some (.str wd), none, none] ∧ Rows K d H H' 2 l ws ∧ (way ≠ 0 → 1 ≤ ws.length) ∧ ws.length ≤ 300 ∧ (2 ≤ way → at0 < ws.length ∧ ws.length ≤ 121)) (fun R hR => ?_) (fun σ1 H1 hI => ?_)
    · refine ⟨_, rfl, rfl, _, rfl, ?_⟩
      refine iteD (fun h => ?_) (fun h => hR _ _ ⟨l, ws, _, rfl, hR1, w1, w3, fun z => w4 (by omega)⟩)
      have hw0 : way = 1 := by have := V.int.inj h; omega
      obtain ⟨hat, w121⟩ := w4 (by omega)
      refine ⟨_, rfl, _, rfl, _, rfl, l, _, rfl, SqL.of hR1.hl, fun p1 hp1 => ?_⟩
      have y1 := Ex.new (o := .lst (cutV ws none (some at0))) hp1
      refine ⟨_, rfl, _, rfl, l, _, _, _, rfl, rfl, SqL.of (y1 _ _ hR1.hl), atI_nat (List.getElem?_eq_getElem hat), sz1000 (by show 1 ≤ 1000; decide), fun p2 hp2 => ?_⟩
      have y2 := y1.trans (Ex.new (o := .lst [ws[at0]]) hp2)
      have h12 := Ex.new (o := .lst [ws[at0]]) hp2 _ _ (show (upd H1 p1 (.lst (cutV ws none (some at0)))) p1 = _ from upd_same)
      have h22 : (upd (upd H1 p1 (.lst (cutV ws none (some at0)))) p2 (.lst [ws[at0]])) p2 = some (.lst [ws[at0]]) := upd_same
      generalize upd (upd H1 p1 (.lst (cutV ws none (some at0)))) p2 (.lst [ws[at0]]) = H2 at y2 h12 h22 ⊢
      have c1 := cutV_length ws none (some at0)
      have c2 := cutV_length ws (some (at0 : Int)) none
      refine ⟨p1, p2, _, _, rfl, rfl, h12, h22, sz1000 (by show _ + 1 ≤ 1000; omega), fun p3 hp3 => ?_⟩
      have y3 := y2.trans (Ex.new (o := .lst (cutV ws none (some at0) ++ [ws[at0]])) hp3)
      have h33 : (upd H2 p3 (.lst (cutV ws none (some at0) ++ [ws[at0]]))) p3 = some (.lst (cutV ws none (some at0) ++ [ws[at0]])) := upd_same
      generalize upd H2 p3 (.lst (cutV ws none (some at0) ++ [ws[at0]])) = H3 at y3 h33 ⊢
      refine ⟨_, rfl, _, rfl, _, rfl, l, _, rfl, SqL.of (y3 _ _ hR1.hl), fun p4 hp4 => ?_⟩
      have y4 := y3.trans (Ex.new (o := .lst (cutV ws (some (at0 : Int)) none)) hp4)
      refine ⟨p3, p4, _, _, rfl, rfl, Ex.new hp4 _ _ h33, upd_same, sz1000 (by rw [List.length_append]; show _ + 1 + _ ≤ 1000; omega), fun p5 hp5 => ?_⟩
      refine hR _ _ ⟨p5, _, _, rfl, hR1.new hDi y4 hp5 (fun v hv => ?_), fun _ => by rw [List.length_append, List.length_append]; show 1 ≤ _ + 1 + _; omega, by rw [List.length_append, List.length_append]; show _ + 1 + _ ≤ 300; omega, fun z => by omega⟩
      rcases List.mem_append.mp hv with h | h
      · rcases List.mem_append.mp h with h | h
        · exact (hR1.rows v (cutV_mem h)).ex y4
        · rw [List.mem_singleton.mp h]; exact (hR1.rows _ (List.getElem_mem hat)).ex y4
      · exact (hR1.rows v (cutV_mem h)).ex y4
    clear hR1 w1 w3 w4
    obtain ⟨l, ws, x4, rfl, hR1, w1, w3, w4⟩ := hI
    show tSeq (tIfS (tTest (tOp rEq (tVar 6) (tC (V.int 2)))) _ _) _ _ _ _
    refine seq_use (fun σ' H' => ∃ l ws x4, σ' = [some (.ref d), some (.ref pd), some (.ref p), some (.ref l), x4, some (.int at0), some (.int way), some (.str wd), none, none] ∧ Rows K d H H' 2 l ws ∧ (way ≠ 0 → 1 ≤ ws.length) ∧ ws.length ≤ 300 ∧ (3 ≤ way → at0 < ws.length ∧ ws.length ≤ 121)) (fun R hR => ?_) (fun σ1 H1 hI => ?_)
    · refine ⟨_, rfl, rfl, _, rfl, ?_⟩
      refine iteD (fun h => ?_) (fun h => hR _ _ ⟨l, ws, _, rfl, hR1, w1, w3, fun z => w4 (by omega)⟩)
      have hw0 : way = 2 := by have := V.int.inj h; omega
      obtain ⟨hat, w121⟩ := w4 (by omega)
      refine ⟨_, rfl, _, rfl, _, rfl, l, _, rfl, SqL.of hR1.hl, fun p1 hp1 => ?_⟩
      have y1 := Ex.new (o := .lst (cutV ws none (some at0))) hp1
      have h11 : (upd H1 p1 (.lst (cutV ws none (some at0)))) p1 = some (.lst (cutV ws none (some at0))) := upd_same
      generalize upd H1 p1 (.lst (cutV ws none (some at0))) = H0 at y1 h11 ⊢
      refine ⟨sz1000 (by show 1 ≤ 1000; decide), fun r0 hr0 => ?_⟩
      have y0 := y1.trans (Ex.new (o := .lst [V.str "kept"]) hr0)
      have h10 := Ex.new (o := .lst [V.str "kept"]) hr0 _ _ h11
      have h00 : (upd H0 r0 (.lst [V.str "kept"])) r0 = some (.lst [V.str "kept"]) := upd_same
      generalize upd H0 r0 (.lst [V.str "kept"]) = H9 at y0 h10 h00 ⊢
      refine ⟨sz1000 (by show 1 ≤ 1000; decide), fun p2 hp2 => ?_⟩
      have y2 := y0.trans (Ex.new (o := .lst [V.ref r0]) hp2)
      have h12 := Ex.new (o := .lst [V.ref r0]) hp2 _ _ h10
      have h02 := Ex.new (o := .lst [V.ref r0]) hp2 _ _ h00
      have h22 : (upd H9 p2 (.lst [V.ref r0])) p2 = some (.lst [V.ref r0]) := upd_same
      generalize upd H9 p2 (.lst [V.ref r0]) = H2 at y2 h12 h02 h22 ⊢
      have c1 := cutV_length ws none (some at0)
      have c2 := cutV_length ws (some (at0 : Int)) none
      refine ⟨p1, p2, _, _, rfl, rfl, h12, h22, sz1000 (by show _ + 1 ≤ 1000; omega), fun p3 hp3 => ?_⟩
      have z3 := Ex.new (o := .lst (cutV ws none (some at0) ++ [V.ref r0])) hp3
      have y3 := y2.trans z3
      have h33 : (upd H2 p3 (.lst (cutV ws none (some at0) ++ [V.ref r0]))) p3 = some (.lst (cutV ws none (some at0) ++ [V.ref r0])) := upd_same
      have h03 := z3 _ _ h02
      generalize upd H2 p3 (.lst (cutV ws none (some at0) ++ [V.ref r0])) = H3 at y3 h33 h03 ⊢
      refine ⟨_, rfl, _, rfl, _, rfl, l, _, rfl, SqL.of (y3 _ _ hR1.hl), fun p4 hp4 => ?_⟩
      have z4 := Ex.new (o := .lst (cutV ws (some (at0 : Int)) none)) hp4
      have y4 := y3.trans z4
      refine ⟨p3, p4, _, _, rfl, rfl, z4 _ _ h33, upd_same, sz1000 (by rw [List.length_append]; show _ + 1 + _ ≤ 1000; omega), fun p5 hp5 => ?_⟩
      refine hR _ _ ⟨p5, _, _, rfl, hR1.new hDi y4 hp5 (fun v hv => ?_), fun _ => by rw [List.length_append, List.length_append]; show 1 ≤ _ + 1 + _; omega, by rw [List.length_append, List.length_append]; show _ + 1 + _ ≤ 300; omega, fun z => by omega⟩
      rcases List.mem_append.mp hv with h | h
      · rcases List.mem_append.mp h with h | h
        · exact (hR1.rows v (cutV_mem h)).ex y4
        · rw [List.mem_singleton.mp h]; exact ⟨r0, _, rfl, z4 _ _ h03, .inl rfl⟩
      · exact (hR1.rows v (cutV_mem h)).ex y4
    clear hR1 w1 w3 w4
    obtain ⟨l, ws, x4, rfl, hR1, w1, w3, w4⟩ := hI
    refine seq_use (fun σ' H' => ∃ l ws x4, σ' = [some (.ref d), some (.ref pd), some (.ref p), some (.ref l), x4, some (.int at0), some (.int way), some (.str wd), none, none] ∧ Rows K d H H' 2 l ws ∧ (way ≠ 0 → 1 ≤ ws.length) ∧ ws.length ≤ 300) (fun R hR => ?_) (fun σ1 H1 hI => ?_)
    · refine ⟨_, rfl, rfl, _, rfl, ?_⟩
      refine iteD (fun h => ?_) (fun h => hR _ _ ⟨l, ws, _, rfl, hR1, w1, w3⟩)
      have hw0 : way = 3 := by have := V.int.inj h; omega
      obtain ⟨hat, w121⟩ := w4 (by omega)
      refine ⟨_, rfl, _, _, rfl, rfl, _, rfl, ?_⟩
      refine iteD (fun h2 => ?_) (fun h2 => hR _ _ ⟨l, ws, _, rfl, hR1, w1, w3⟩)
      have h2' : (0 : Int) < (at0 : Int) := h2
      have hj1 : atI ws ((at0 : Int) - 1) = some ws[at0 - 1] := by
        have : ((at0 : Int) - 1) = ((at0 - 1 : Nat) : Int) := by omega
        rw [this]
        exact atI_nat (List.getElem?_eq_getElem (by omega))
      refine ⟨_, rfl, _, rfl, _, _, rfl, rfl, _, rfl, l, _, rfl, SqL.of hR1.hl, fun p1 hp1 => ?_⟩
      have y1 := Ex.new (o := .lst (cutV ws none (some ((at0 : Int) - 1)))) hp1
      have h11 : (upd H1 p1 (.lst (cutV ws none (some ((at0 : Int) - 1))))) p1 = some (.lst (cutV ws none (some ((at0 : Int) - 1)))) := upd_same
      generalize upd H1 p1 (.lst (cutV ws none (some ((at0 : Int) - 1)))) = H9 at y1 h11 ⊢
      refine ⟨_, rfl, _, rfl, l, _, _, _, rfl, rfl, SqL.of (y1 _ _ hR1.hl), atI_nat (List.getElem?_eq_getElem hat), _, rfl, _, rfl, _, _, rfl, rfl, l, _, _, _, rfl, rfl, SqL.of (y1 _ _ hR1.hl), hj1, sz1000 (by show 2 ≤ 1000; decide), fun p2 hp2 => ?_⟩
      have z2 := Ex.new (o := .lst [ws[at0], ws[at0 - 1]]) hp2
      have y2 := y1.trans z2
      have h12 := z2 _ _ h11
      have h22 : (upd H9 p2 (.lst [ws[at0], ws[at0 - 1]])) p2 = some (.lst [ws[at0], ws[at0 - 1]]) := upd_same
      generalize upd H9 p2 (.lst [ws[at0], ws[at0 - 1]]) = H2 at y2 h12 h22 ⊢
      have c1 := cutV_length ws none (some ((at0 : Int) - 1))
      have c2 := cutV_length ws (some ((at0 : Int) + 1)) none
      refine ⟨p1, p2, _, _, rfl, rfl, h12, h22, sz1000 (by show _ + 2 ≤ 1000; omega), fun p3 hp3 => ?_⟩
      have z3 := Ex.new (o := .lst (cutV ws none (some ((at0 : Int) - 1)) ++ [ws[at0], ws[at0 - 1]])) hp3
      have y3 := y2.trans z3
      have h33 : (upd H2 p3 (.lst (cutV ws none (some ((at0 : Int) - 1)) ++ [ws[at0], ws[at0 - 1]]))) p3 = some (.lst (cutV ws none (some ((at0 : Int) - 1)) ++ [ws[at0], ws[at0 - 1]])) := upd_same
      generalize upd H2 p3 (.lst (cutV ws none (some ((at0 : Int) - 1)) ++ [ws[at0], ws[at0 - 1]])) = H3 at y3 h33 ⊢
      refine ⟨_, rfl, _, rfl, _, _, rfl, rfl, _, rfl, l, _, rfl, SqL.of (y3 _ _ hR1.hl), fun p4 hp4 => ?_⟩
      have z4 := Ex.new (o := .lst (cutV ws (some ((at0 : Int) + 1)) none)) hp4
      have y4 := y3.trans z4
      refine ⟨p3, p4, _, _, rfl, rfl, z4 _ _ h33, upd_same, sz1000 (by rw [List.length_append]; show _ + 2 + _ ≤ 1000; omega), fun p5 hp5 => ?_⟩
      refine hR _ _ ⟨p5, _, _, rfl, hR1.new hDi y4 hp5 (fun v hv => ?_), fun _ => by rw [List.length_append, List.length_append]; show 1 ≤ _ + 2 + _; omega, by rw [List.length_append, List.length_append]; show _ + 2 + _ ≤ 300; omega⟩
      rcases List.mem_append.mp hv with h | h
      · rcases List.mem_append.mp h with h | h
        · exact (hR1.rows v (cutV_mem h)).ex y4
        · rcases List.mem_cons.mp h with h | h
          · rw [h]; exact (hR1.rows _ (List.getElem_mem hat)).ex y4
          · rw [List.mem_singleton.mp h]; exact (hR1.rows _ (List.getElem_mem _)).ex y4
      · exact (hR1.rows v (cutV_mem h)).ex y4
    clear hR1 w1 w3 w4
    obtain ⟨l, ws, x4, rfl, hR1, w1, w3⟩ := hI
    refine ⟨_, rfl, _, rfl, l, _, rfl, .inl (SqL.of hR1.hl), _, _, rfl, rfl, _, _, rfl, ?_⟩
    obtain ⟨at1, e1, hat1⟩ : ∃ at1 : Int, (if (ws.length : Int) - 1 < (at0 : Int) then (ws.length : Int) - 1 else (at0 : Int)) = at1 ∧ (way ≠ 0 → ∃ j : Nat, at1 = j ∧ j < ws.length) := by
      refine ⟨_, rfl, fun z => ?_⟩
      have := w1 z
      by_cases h : (ws.length : Int) - 1 < (at0 : Int)
      · rw [if_pos h]; exact ⟨ws.length - 1, by omega, by omega⟩
      · rw [if_neg h]; exact ⟨at0, rfl, by omega⟩
    rw [e1]
    clear w1
    have w1 := hat1
    show tSeq (tIfS (tAnd (tTest (tOp rEq (tVar 6) (tC (V.int 4)))) _) _ _) _ _ _ _
    refine seq_use (fun σ' H' => ∃ l ws x4 x8, σ' = [some (.ref d), some (.ref pd), some (.ref p), some (.ref l), x4, some (.int at1), some (.int way), some (.str wd), x8, none] ∧ Rows K d H H' 2 l ws ∧ (way ≠ 0 → ∃ j : Nat, at1 = j ∧ j < ws.length) ∧ ws.length ≤ 300) (fun R hR => ?_) (fun σ1 H1 hI => ?_)
    · refine ⟨_, rfl, rfl, _, rfl, ?_⟩
      refine iteD (fun h => ?_) (fun h => hR _ _ ⟨l, ws, _, _, rfl, hR1.le (by decide), w1, w3⟩)
      have hw0 : way = 4 := by have := V.int.inj h; omega
      obtain ⟨j, rfl, hj⟩ := w1 (by omega)
      obtain ⟨r, xs, hrv, hr, hxs⟩ := hR1.rows _ (List.getElem_mem hj)
      have hat : atI ws (j : Int) = some (.ref r) := by rw [← hrv]; exact atI_nat (List.getElem?_eq_getElem hj)
      refine ⟨_, rfl, _, rfl, l, ws, _, _, rfl, rfl, SqL.of hR1.hl, hat, r, _, rfl, .inl (SqL.of hr), rfl, _, rfl, ?_⟩
      rcases hxs with rfl | ⟨c, a, org, out, rfl, ha, hax, hal, hc, ho⟩
      · exact iteDF (fun z => by have := V.int.inj z; simp at this) (hR _ _ ⟨l, ws, _, _, rfl, hR1.le (by decide), w1, w3⟩)
      refine iteDT rfl ?_
      obtain ⟨bb, hbb, ebb⟩ := List.mem_map.mp hwB
      have ebb : bb.1 = wd := ebb
      have hm0 : (wd, bb.2.1, bb.2.2) ∈ B := by rw [← ebb]; exact hbb
      have y3 := (ok.pr bb hbb).y3
      refine ⟨_, rfl, _, rfl, l, ws, _, _, rfl, rfl, SqL.of hR1.hl, hat, r, _, (0 : Int), _, rfl, rfl, SqL.of hr, rfl, _, rfl, _, rfl, l, ws, _, _, rfl, rfl, SqL.of hR1.hl, hat, r, _, (1 : Int), _, rfl, rfl, SqL.of hr, rfl, _, rfl, _, rfl, _, rfl, pd, B, wd, bb.2.1, bb.2.2, rfl, hPd.kr (hDi.kr hR1.kx), ok, hm0, fun H2 q2 zs e2 hq2 h2 pz => ?_⟩
      refine ⟨sz1000 (by show 2 ≤ 1000; decide), fun q3 hq3 => ?_⟩
      have z3 := Ex.new (o := .lst [V.str "kept", .str "skipped"]) hq3
      have h23 := z3 _ _ h2
      have h33 : (upd H2 q3 (.lst [V.str "kept", .str "skipped"])) q3 = some (.lst [V.str "kept", .str "skipped"]) := upd_same
      have e3 := e2.trans z3
      generalize upd H2 q3 (.lst [V.str "kept", .str "skipped"]) = H3 at e3 h23 h33 ⊢
      have zl : zs.length = bb.2.2.length + 1 := by rw [pz.length_eq]; rfl
      refine ⟨q2, q3, _, _, rfl, rfl, h23, h33, sz1000 (by rw [List.length_map]; show _ + 2 ≤ 1000; omega), fun q4 hq4 => ?_⟩
      have e4 := e3.trans (Ex.new (o := .lst (zs.map V.str ++ [V.str "kept", .str "skipped"])) hq4)
      have h44 : (upd H3 q4 (.lst (zs.map V.str ++ [V.str "kept", .str "skipped"]))) q4 = some (.lst (zs.map V.str ++ [V.str "kept", .str "skipped"])) := upd_same
      have n4 : q4 ≠ d := (hR1.di.ex e3).ne hq4
      generalize upd H3 q4 (.lst (zs.map V.str ++ [V.str "kept", .str "skipped"])) = H4 at e4 h44 ⊢
      refine ⟨d, q4, _, rfl, hR1.di.ex e4, h44, n4, by rw [List.length_append]; show 0 < _ + 2; omega, by rw [List.length_append, List.length_map]; show _ + 2 ≤ 1000; omega, fun H5 x kx5 D5 hx => ?_⟩
      obtain ⟨o2, rfl, ho2⟩ : ∃ o2, x = .str o2 ∧ PyData.strOk o2 = true := by
        rcases List.mem_append.mp hx with h | h
        · obtain ⟨o2, h2, rfl⟩ := List.mem_map.mp h
          exact ⟨o2, rfl, outOk ok hm0 (pz.mem_iff.mp h2)⟩
        · rcases List.mem_cons.mp h with h | h
          · exact ⟨_, h, keptOk⟩
          · exact ⟨_, List.mem_singleton.mp h, skippedOk⟩
      have kx15 := (Kx.of_ex e4).trans kx5
      refine ⟨sz1000 (by show 3 ≤ 1000; decide), fun r2 hr2 => ?_⟩
      have hl5 := (Ex.new (o := .lst [V.str c, .ref a, .str o2]) hr2) _ _ (kx15 _ _ hR1.ld hR1.hl)
      refine ⟨_, rfl, _, rfl, l, ws, _, j, rfl, rfl, hl5, ixN_nat hj, ?_⟩
      refine hR _ _ ⟨l, _, _, _, rfl, hR1.put (by decide) kx15 D5 hr2 (.inr ⟨c, a, org, o2, rfl, (hR1.di.kr kx15).tup ha, hax, hal, hc, ho2⟩) j, fun _ => ⟨j, rfl, by rw [List.length_set]; exact hj⟩, by rw [List.length_set]; exact w3⟩
    clear hR1 w1 w3
    obtain ⟨l, ws, x4, x8, rfl, hR1, w1, w3⟩ := hI
    show tSeq (tIfS (tAnd (tTest (tOp rEq (tVar 6) (tC (V.int 5)))) _) _ _) _ _ _ _
    refine seq_use (fun σ' H' => ∃ l ws x4 x8, σ' = [some (.ref d), some (.ref pd), some (.ref p), some (.ref l), x4, some (.int at1), some (.int way), some (.str wd), x8, none] ∧ Rows K d H H' 3 l ws ∧ (way ≠ 0 → ∃ j : Nat, at1 = j ∧ j < ws.length) ∧ ws.length ≤ 300) (fun R hR => ?_) (fun σ1 H1 hI => ?_)
    · refine ⟨_, rfl, rfl, _, rfl, ?_⟩
      refine iteD (fun h => ?_) (fun h => hR _ _ ⟨l, ws, _, _, rfl, hR1.le (by decide), w1, w3⟩)
      have hw0 : way = 5 := by have := V.int.inj h; omega
      obtain ⟨j, rfl, hj⟩ := w1 (by omega)
      obtain ⟨r, xs, hrv, hr, hxs⟩ := hR1.rows _ (List.getElem_mem hj)
      have hat : atI ws (j : Int) = some (.ref r) := by rw [← hrv]; exact atI_nat (List.getElem?_eq_getElem hj)
      refine ⟨_, rfl, _, rfl, l, ws, _, _, rfl, rfl, SqL.of hR1.hl, hat, r, _, rfl, .inl (SqL.of hr), rfl, _, rfl, ?_⟩
      rcases hxs with rfl | ⟨c, a, org, out, rfl, ha, hax, hal, hc, ho⟩
      · exact iteDF (fun z => by have := V.int.inj z; simp at this) (hR _ _ ⟨l, ws, _, _, rfl, hR1.le (by decide), w1, w3⟩)
      refine iteDT rfl ?_
      refine ⟨_, rfl, _, rfl, _, rfl, l, ws, _, _, rfl, rfl, SqL.of hR1.hl, hat, r, _, (1 : Int), _, rfl, rfl, SqL.of hr, rfl, a, _, rfl, .inr ha, _, rfl, d, _, rfl, hR1.di, by decide, by decide, fun H2 r6 kx2 D2 hr6 => ?_⟩
      refine ⟨rfl, .inr ⟨_, rfl, _, _, rfl, rfl, _, rfl, _, _, rfl, rfl, _, rfl, RgOk.of_le (by decide) (by omega) (by decide) (by omega), fun q3 hq3 => ?_⟩⟩
      obtain ⟨mm, em, hmm⟩ : ∃ mm : Nat, ((org.length : Int) + if decide (V.int (r6 : Int) = V.int 0) = true then 1 else 0) = (mm : Int) ∧ mm ≤ org.length + 1 := by
        by_cases z : V.int (r6 : Int) = V.int 0
        · exact ⟨org.length + 1, by rw [if_pos (decide_eq_true z)]; omega, Nat.le_refl _⟩
        · exact ⟨org.length, by rw [if_neg (by rw [decide_eq_false z]; decide)]; omega, Nat.le_succ _⟩
      have z3 := Ex.new (o := .lst (rgV 0 ((j : Int) + 1))) hq3
      have h33 : (upd H2 q3 (.lst (rgV 0 ((j : Int) + 1)))) q3 = some (.lst (((List.range ((j : Int) + 1 - 0).toNat).map fun i => ((0 : Int) + (i : Nat))).map V.int)) := by
        rw [upd_same, List.map_map]; rfl
      have n3 := D2.ne hq3
      have D3 := D2.ex z3
      have kx3 := kx2.trans (.of_ex z3)
      generalize upd H2 q3 (.lst (rgV 0 ((j : Int) + 1))) = H3 at z3 h33 D3 kx3 ⊢
      refine ⟨d, q3, mm, _, congrArg (fun z => [V.ref d, V.int z, V.ref q3]) em, D3, h33, n3, by omega, by rw [List.length_map, List.length_range]; omega, fun H4 a2 org2 kx4 D4 ha20 ha2 ol oall => ?_⟩
      have g4 := hR1.go (kx3.trans kx4) D4
      have hr4 := (kx3.trans kx4) _ _ (hR1.row_ne hr (Or.inr ⟨c, a, org, out, rfl, ha, hax, hal, hc, ho⟩)) hr
      refine ⟨_, rfl, _, rfl, l, ws, _, _, rfl, rfl, SqL.of g4.hl, hat, r, _, (0 : Int), _, rfl, rfl, SqL.of hr4, rfl, _, rfl, _, rfl, _, rfl, l, ws, _, _, rfl, rfl, SqL.of g4.hl, hat, r, _, (2 : Int), _, rfl, rfl, SqL.of hr4, rfl, sz1000 (by show 3 ≤ 1000; decide), fun r2 hr2 => ?_⟩
      have hl5 := (Ex.new (o := .lst [V.str c, .ref a2, .str out]) hr2) _ _ g4.hl
      refine ⟨_, rfl, _, rfl, l, ws, _, j, rfl, rfl, hl5, ixN_nat hj, ?_⟩
      refine hR _ _ ⟨l, _, _, _, rfl, hR1.put (by decide) (kx3.trans kx4) D4 hr2 (.inr ⟨c, a2, org2, out, rfl, ha2, fun x hx => (oall x hx).1, by omega, hc, ho⟩) j, fun _ => ⟨j, rfl, by rw [List.length_set]; exact hj⟩, by rw [List.length_set]; exact w3⟩
    clear hR1 w1 w3
    obtain ⟨l, ws, x4, x8, rfl, hR1, w1, w3⟩ := hI
    show tSeq (tIfS (tAnd (tTest (tOp rEq (tVar 6) (tC (V.int 6)))) _) _ _) _ _ _ _
    refine seq_use (fun σ' H' => ∃ l ws x4 x8, σ' = [some (.ref d), some (.ref pd), some (.ref p), some (.ref l), x4, some (.int at1), some (.int way), some (.str wd), x8, none] ∧ Rows K d H H' 3 l ws ∧ (way ≠ 0 → ∃ j : Nat, at1 = j ∧ j < ws.length) ∧ ws.length ≤ 300) (fun R hR => ?_) (fun σ1 H1 hI => ?_)
    · refine ⟨_, rfl, rfl, _, rfl, ?_⟩
      refine iteD (fun h => ?_) (fun h => hR _ _ ⟨l, ws, _, _, rfl, hR1.le (by decide), w1, w3⟩)
      have hw0 : way = 6 := by have := V.int.inj h; omega
      obtain ⟨j, rfl, hj⟩ := w1 (by omega)
      obtain ⟨r, xs, hrv, hr, hxs⟩ := hR1.rows _ (List.getElem_mem hj)
      have hat : atI ws (j : Int) = some (.ref r) := by rw [← hrv]; exact atI_nat (List.getElem?_eq_getElem hj)
      refine ⟨_, rfl, _, rfl, l, ws, _, _, rfl, rfl, SqL.of hR1.hl, hat, r, _, rfl, .inl (SqL.of hr), rfl, _, rfl, ?_⟩
      rcases hxs with rfl | ⟨c, a, org, out, rfl, ha, hax, hal, hc, ho⟩
      · exact iteDF (fun z => by have := V.int.inj z; simp at this) (hR _ _ ⟨l, ws, _, _, rfl, hR1.le (by decide), w1, w3⟩)
      refine iteDT rfl ?_
      have wok : PyData.strOk wd = true := by
        obtain ⟨b, hb, eb⟩ := List.mem_map.mp hwB
        have eb : b.1 = wd := eb
        rw [← eb]; exact ans_strOk (ok.ans b hb)
      refine ⟨_, rfl, _, rfl, _, rfl, l, ws, _, _, rfl, rfl, SqL.of hR1.hl, hat, r, _, (1 : Int), _, rfl, rfl, SqL.of hr, rfl, _, rfl, _, rfl, l, ws, _, _, rfl, rfl, SqL.of hR1.hl, hat, r, _, (2 : Int), _, rfl, rfl, SqL.of hr, rfl, sz1000 (by show 3 ≤ 1000; decide), fun r2 hr2 => ?_⟩
      have hl5 := (Ex.new (o := .lst [V.str wd, .ref a, .str out]) hr2) _ _ hR1.hl
      refine ⟨_, rfl, _, rfl, l, ws, _, j, rfl, rfl, hl5, ixN_nat hj, ?_⟩
      refine hR _ _ ⟨l, _, _, _, rfl, hR1.put (by decide) (Kx.refl _ _) hR1.di hr2 (.inr ⟨wd, a, org, out, rfl, ha, hax, hal, wok, ho⟩) j, fun _ => ⟨j, rfl, by rw [List.length_set]; exact hj⟩, by rw [List.length_set]; exact w3⟩
    clear hR1 w1 w3
    obtain ⟨l, ws, x4, x8, rfl, hR1, w1, w3⟩ := hI
    refine ⟨_, rfl, l, rfl, ⟨_, SqL.of hR1.hl⟩, fun D hD => ?_⟩
    refine lc_it (w := walk_list (xs := ws)) (fun i H' => Ex H1 H' ∧ ∃ ts es', H' D = some (.lst ts) ∧ ts.length = i ∧ EnsV K H' ts es')
      ⟨Ex.new hD, [], [], upd_same, rfl, ⟨rfl, fun i v e h => by simp at h⟩⟩ (fun i H' _ p => ex_l p.1 (SqL.of hR1.hl)) (fun i x Ha Hb hi p y => ?_) (fun H2 p => ?_)
    · obtain ⟨rfl, hx⟩ := y
      obtain ⟨e, ts, es', hDl, tl, hts⟩ := p
      obtain ⟨r, xs, rfl, hr, hxs⟩ := hR1.rows x (List.mem_of_getElem? hx)
      refine ⟨rfl, ?_⟩
      refine tyes ?_
      refine ⟨_, rfl, r, xs, rfl, .inl ⟨SqL.of (e _ _ hr), fun q hq => ?_⟩⟩
      have xq := Ex.new (o := .tup xs) hq
      have hqq : (upd Hb q (.tup xs)) q = some (.tup xs) := upd_same
      generalize upd Hb q (.tup xs) = H3 at xq hqq ⊢
      have hD3 := xq _ _ hDl
      have krD : Kr H3 (upd H3 D (.lst (ts ++ [.ref q]))) := Kr.lst hD3
      obtain ⟨en, hen⟩ : ∃ en, EnV K (upd H3 D (.lst (ts ++ [.ref q]))) (.ref q) en := by
        have hq3 : SqT K (upd H3 D (.lst (ts ++ [.ref q]))) q xs := krD.tup (SqT.of hqq)
        rcases hxs with rfl | ⟨c, a, org, out, rfl, ha, hax, hal, hc, ho⟩
        · exact ⟨.kept, q, rfl, hq3⟩
        · exact ⟨.cmd c org out, q, a, rfl, hq3, krD.tup (ex_t (e.trans xq) ha), hax, by omega, hc, ho⟩
      exact ⟨_, hD3, szlt (by omega), Ex.mut (e.trans xq) hD, _, es' ++ [en], upd_same, by rw [List.length_append, tl]; rfl, (hts.kt ((Kt.of_ex xq).trans krD.kt)).snoc hen⟩
    · obtain ⟨e, ts, es', hDl, tl, hts⟩ := p
      refine ⟨D, ts, rfl, .inl ⟨SqL.of hDl, fun q hq => ?_⟩⟩
      have xq := Ex.new (o := .tup ts) hq
      have tl2 := hts.len
      exact k _ q es' (hR1.kx.trans (.of_ex (e.trans xq))) (hR1.di.ex (e.trans xq)) ⟨ts, SqT.of upd_same, hts.kt (Kt.of_ex xq), by omega⟩
end Sk
namespace Sk
open PySem L2 KwX Evl RZ
def told : Option Str → List V
  | some s => [.str s]
  | none => []
theorem dpStrs {K : PySem.W.Frag} {H : Hp} : ∀ l : List Str, DpAll K H (l.map V.str) (l.map PyData.str)
  | [] => .nil
  | i :: r => .cons (.str i) (dpStrs r)
def toldD : Option Str → PyData
  | some s => .list [.str s]
  | none => .list []
theorem dpTold {K : PySem.W.Frag} {H : Hp} {q : Addr} {o : Option Str} (h : H q = some (.lst (told o))) : Dp K H (.ref q) (toldD o) := by
  cases o with
  | none => exact .lst (SqL.of h) .nil
  | some s => exact .lst (SqL.of h) (.cons (.str s) .nil)
theorem shapTold {o : Option Str} (h : ∀ s, o = some s → PyData.strOk s = true) : SeqAt.shaped (toldD o) = true := by
  cases o with
  | none => decide +kernel
  | some s =>
    unfold SeqAt.shaped
    have := h s rfl
    simp [toldD, PyData.canLay0, PyData.canLayAll0, PyData.depth, PyData.depthAll, this]
theorem eqv_same {d : PyData} (h : SeqAt.shaped d = true) : PyData.eqv d d = true := SeqAt.eqv_refl _ (SeqAt.canLay_of_shaped h)
theorem behF_mem {B : Bk} {T : Tb} (okT : TbOk B T) : ∀ {es : List En} {st s : Str}, st ∈ T.map (·.1) → (∀ e ∈ es, enNm B e) → behF T es st = some s → s ∈ T.map (·.1)
  | [], st, s, hst, _, h => by rw [← Option.some.inj h]; exact hst
  | e :: r, st, s, hst, hn, h => by
    have hr := fun e' he' => hn e' (List.mem_cons_of_mem _ he')
    obtain ⟨x, hf, hm, rfl⟩ := find_at hst
    have en := okT.en x hm
    cases e with
    | kept =>
      have : keptOf T x.1 = x.2.2 := by unfold keptOf; rw [hf]
      exact behF_mem okT (st := keptOf T x.1) (by rw [this]; exact en.kp) hr h
    | cmd c org out =>
      have h' : (if (entOf T x.1 c).1 = out then behF T r (entOf T x.1 c).2 else none) = some s := h
      by_cases ho : (entOf T x.1 c).1 = out
      · rw [if_pos ho] at h'
        refine behF_mem okT (st := (entOf T x.1 c).2) ?_ hr h'
        have hc : c ∈ B.map (·.1) := hn _ (List.mem_cons_self ..)
        obtain ⟨y, hfy, hmy, rfl⟩ := find_at (en.ks.mem_iff.mpr hc)
        have ee : entOf T x.1 y.1 = y.2 := by unfold entOf; rw [hf]; dsimp only; rw [hfy]
        rw [ee]
        exact (en.en y hmy).1
      · rw [if_neg ho] at h'; cases h'
theorem behind_mem {B : Bk} {T : Tb} {st : Str} {es : List En} {s : Str} (okT : TbOk B T) (hst : st ∈ T.map (·.1)) (h : behind B T st es = some s) : s ∈ T.map (·.1) := by
  unfold behind at h
  by_cases hw : isW B es [] 0 false = true
  · rw [if_pos hw] at h
    exact behF_mem okT hst (isW_nm hw) h
  · rw [if_neg hw] at h; cases h
def sp_asked (K : PySem.W.Frag) (CB CS : Addr) : Sp := fun vs H Q _ => ∃ (v pd t p : Addr) (B : Bk) (pk tk : List (Key × V)) (TT : Tb) (st : Str) (es : List En), vs = [.ref v, .ref pd, .ref t, .str st, .ref p] ∧ ServerAt K CB CS H v B TT st ∧ H pd = some (.dK pk) ∧ PKv K H pk B ∧ BkOk B ∧ Rd H t (.dK tk) ∧ TDv K H tk TT ∧ TbOk B TT ∧ st ∈ TT.map (·.1) ∧ WorkAt K H p es ∧
  ∀ H', Ex H H' → Q (.bl true) H'
def sp_state (K : PySem.W.Frag) (CB CS : Addr) : Sp := fun vs H Q _ => ∃ (v p : Addr) (B : Bk) (TT : Tb) (st : Str) (es : List En), vs = [.ref v, .ref p] ∧ ServerAt K CB CS H v B TT st ∧ BkOk B ∧ TbOk B TT ∧ WorkAt K H p es ∧
  ∀ (H' : Hp) (q : Addr), Ex H H' → H' q = some (.lst (told (behind B TT st es))) → Q (.ref q) H'
def sp_next (K : PySem.W.Frag) (CB CS : Addr) : Sp := fun vs H Q _ => ∃ (v p : Addr) (B : Bk) (TT : Tb) (st : Str) (es : List En) (c : Str), vs = [.ref v, .ref p, .str c] ∧ ServerAt K CB CS H v B TT st ∧ BkOk B ∧ TbOk B TT ∧ WorkAt K H p es ∧ c ∈ B.map (·.1) ∧
  ∀ (H' : Hp) (q : Addr), Ex H H' → H' q = some (.lst (told ((behind B TT st es).map fun s => (entOf TT s c).1))) → Q (.ref q) H'
abbrev N_state : List Str := ["_law_server", "_law_work", "_law_told"]
theorem sc_state : FnScope N_state ["_law_server", "_law_work"] (defScope (topS 60)) := ⟨rfl, rfl, rfl, by decide +kernel, rfl, by decide +kernel, by decide +kernel⟩
theorem ok_state {P : Program} {w : World} {K : PySem.W.Frag} {mg : Str → Option Value} {base : Heap} {CB CS CI : Addr} (T : Txt K mg CB CS CI) : Cl P w K mg base CX0 7 "_law_state" ["_law_server", "_law_work"] (sp_state K CB CS) := T.f_state.cl fun f fd F => by
  refine F.ok sc_state (fun vs H Q E h => ?_) (fun cdv A outer s H vs Q E hr h => ?_)
  · obtain ⟨v, p, B, TT, st, es, rfl, _⟩ := h
    rfl
  · obtain ⟨v, p, B, TT, st, es, rfl, hS, ok, okT, hW, k⟩ := h
    have hu := hu_of hr
    refine ⟨_, (pss_cons (ps_set (i := 2) sc_state.nd rfl (Or.inl rfl) (pe_lst pa_nil))
      (pss_cons (ps_try_only (tb := fun W => tAsg (tLst (tCons (tCallOW CS (sp_server_call K CB CS CI) (WE W) (tVar 0) (tCons (tVar 1) tNil)) tNil)) (gName 2)) (ts := fun _ _ _ => tAsg (tLst tNil) (gName 2)) rfl rfl ⟨rfl, by decide, .inl T.gI⟩ takes0 (fun W pn xe tk _ => pss_one (ps_set (i := 2) sc_state.nd rfl (Or.inl rfl) (pe_lst (pa_cons (pe_callOW (ol_server T) hr (fun σ => passAt tk σ) (pv 0) (pa_cons (pv 1) pa_nil)) pa_nil)))) (fun a oe cls d pn _ _ => pss_one (ps_set (i := 2) sc_state.nd rfl (Or.inl rfl) (pe_lst pa_nil))))
      (pss_one (ps_ret (pv 2))))), ?_⟩
    refine ⟨sz1000 (by show 0 ≤ 1000; decide), fun l0 hl0 => ?_⟩
    have x1 := Ex.new (o := .lst []) hl0
    have hS1 := hS.kr (.of_ex x1)
    obtain ⟨dx, b, t, tk, hv, _⟩ := id hS1
    refine ⟨_, rfl, v, rfl, _, rfl, ⟨dx, _, hv⟩, v, p, B, TT, st, es, rfl, hS1, ok, okT, hW.kt (Kt.of_ex x1), fun s hb hs H1 e1 => ?_, fun hb H1 e1 => ?_⟩
    · refine ⟨sz1000 (by show 1 ≤ 1000; decide), fun l1 hl1 => ⟨_, rfl, ?_⟩⟩
      refine k _ l1 ((x1.trans e1).trans (Ex.new hl1)) ?_
      rw [hb]; exact upd_same
    · refine ⟨true, T.eI, fun _ a ha => ?_, fun q => nomatch q⟩
      refine ⟨sz1000 (by show 0 ≤ 1000; decide), fun l1 hl1 => ⟨_, rfl, ?_⟩⟩
      refine k _ l1 ((x1.trans e1).trans (Ex.new hl1)) ?_
      rw [hb]; exact upd_same
abbrev N_next : List Str := ["_law_server", "_law_work", "_law_command", "_law_told"]
theorem sc_next : FnScope N_next ["_law_server", "_law_work", "_law_command"] (defScope (topS 61)) := ⟨rfl, rfl, rfl, by decide +kernel, rfl, by decide +kernel, by decide +kernel⟩
theorem ok_next {P : Program} {w : World} {K : PySem.W.Frag} {mg : Str → Option Value} {base : Heap} {CB CS CI : Addr} (T : Txt K mg CB CS CI) : Cl P w K mg base CX0 8 "_law_next" ["_law_server", "_law_work", "_law_command"] (sp_next K CB CS) := T.f_next.cl fun f fd F => by
  refine F.ok sc_next (fun vs H Q E h => ?_) (fun cdv A outer s H vs Q E hr h => ?_)
  · obtain ⟨v, p, B, TT, st, es, c, rfl, _⟩ := h
    rfl
  · obtain ⟨v, p, B, TT, st, es, c, rfl, hS, ok, okT, hW, hc, k⟩ := h
    have hu := hu_of hr
    refine ⟨_, (pss_cons (ps_set (i := 3) sc_next.nd rfl (Or.inl rfl) (pe_lst pa_nil))
      (pss_cons (ps_try_only (tb := fun W => tAsg (tLst (tCons (tMethW CS "outcome" (sp_server_outcome K CB CS CI) (WE W) (tVar 0) (tCons (tVar 1) (tCons (tVar 2) tNil))) tNil)) (gName 3)) (ts := fun _ _ _ => tAsg (tLst tNil) (gName 3)) rfl rfl ⟨rfl, by decide, .inl T.gI⟩ takes0 (fun W pn xe tk _ => pss_one (ps_set (i := 3) sc_next.nd rfl (Or.inl rfl) (pe_lst (pa_cons (pe_methW (ok_server_outcome T) T.clS hr (fun σ => passAt tk σ) (pv 0) (pa_cons (pv 1) (pa_cons (pv 2) pa_nil))) pa_nil)))) (fun a oe cls d pn _ _ => pss_one (ps_set (i := 3) sc_next.nd rfl (Or.inl rfl) (pe_lst pa_nil))))
      (pss_one (ps_ret (pv 3))))), ?_⟩
    refine ⟨sz1000 (by show 0 ≤ 1000; decide), fun l0 hl0 => ?_⟩
    have x1 := Ex.new (o := .lst []) hl0
    have hS1 := hS.kr (.of_ex x1)
    obtain ⟨dx, b, t, tk, hv, _⟩ := id hS1
    obtain ⟨l1, l2, l3, l4⟩ := lkS b t st
    refine ⟨_, rfl, v, dx, _, rfl, hv, l4, _, rfl, _, rfl, v, p, B, TT, st, es, c, rfl, hS1, ok, okT, hW.kt (Kt.of_ex x1), hc, fun s hb hs H1 e1 => ?_, fun hb H1 e1 => ?_⟩
    · refine ⟨sz1000 (by show 1 ≤ 1000; decide), fun l1 hl1 => ⟨_, rfl, ?_⟩⟩
      refine k _ l1 ((x1.trans e1).trans (Ex.new hl1)) ?_
      rw [hb]; exact upd_same
    · refine ⟨true, T.eI, fun _ a ha => ?_, fun q => nomatch q⟩
      refine ⟨sz1000 (by show 0 ≤ 1000; decide), fun l1 hl1 => ⟨_, rfl, ?_⟩⟩
      refine k _ l1 ((x1.trans e1).trans (Ex.new hl1)) ?_
      rw [hb]; exact upd_same
abbrev N_asked : List Str := ["_law_server", "_law_pairs_here", "_law_table_here", "_law_root", "_law_work", "_law_state_here", "_law_word_here"]
theorem sc_asked : FnScope N_asked ["_law_server", "_law_pairs_here", "_law_table_here", "_law_root", "_law_work"] (defScope (topS 62)) := ⟨rfl, rfl, rfl, by decide +kernel, rfl, by decide +kernel, by decide +kernel⟩
theorem ok_asked {P : Program} {w : World} {K : PySem.W.Frag} {mg : Str → Option Value} {base : Heap} {CB CS CI : Addr} (T : Txt K mg CB CS CI) : Cl P w K mg base CX0 9 "_law_asked" ["_law_server", "_law_pairs_here", "_law_table_here", "_law_root", "_law_work"] (sp_asked K CB CS) := T.f_asked.cl fun f fd F => by
  refine F.ok sc_asked (fun vs H Q E h => ?_) (fun cdv A outer s H vs Q E hr h => ?_)
  · obtain ⟨v, pd, t, p, B, pk, tk, TT, st, es, rfl, _⟩ := h
    rfl
  · obtain ⟨v, pd, t, p, B, pk, tk, TT, st, es, rfl, hS, hpd, hP, ok, ht, hT, okT, hst, hW, k⟩ := h
    have hu := hu_of hr
    refine ⟨_, (pss_cons (ps_set (i := 5) sc_asked.nd rfl (Or.inr rfl) (pc0 (ok_behind T) hr (pa_cons (pv 1) (pa_cons (pv 2) (pa_cons (pv 3) (pa_cons (pv 4) pa_nil))))))
      (pss_cons (ps_if (pt_cmpR op_isN (pv 5) pe_non (nomark _)) (pss_one (ps_ret (pe_and (pe_cmpR (op_eqD hr.units) (pc0 (ok_state T) hr (pa_cons (pv 0) (pa_cons (pv 4) pa_nil))) (pe_lst pa_nil) (nomark _)) (pe_one (pe_cmpR (op_eqD hr.units) (pc0 (ok_next T) hr (pa_cons (pv 0) (pa_cons (pv 4) (pa_cons (pe_ix ix_list (pe_callB (call_sortedD rfl) (by rfl) T.zsorted bt_sorted (pa_cons (pv 1) pa_nil)) pe_int (fun _ _ => rfl)) pa_nil)))) (pe_lst pa_nil) (nomark _)))))) pss_nil)
      (pss_cons (ps_if (pt_cmpR (op_neD hr.units) (pc0 (ok_state T) hr (pa_cons (pv 0) (pa_cons (pv 4) pa_nil))) (pe_lst (pa_cons (pv 5) pa_nil)) (nomark _)) (pss_one (ps_ret pe_bl)) pss_nil)
      (pss_one (ps_ret (pe_cmpR (op_eqD hr.units) (pe_lock (pe_lc (tt := tTest (tOp (rNeD K) (tCall (sp_next K CB CS) [] E0 (tCons (tVar 0) (tCons (tVar 4) (tCons (tVar 6) tNil)))) (tLst (tCons (tOp (rIxT K) (tDGet (tDGet (tVar 2) (tVar 5)) (tVar 6)) (tC (.int 0))) tNil)))) (own := [("_law_word_here", 6)]) (g := gName 6) rfl sc_asked.nd (pi_keys (pv 1)) (blkOk_by (N := N_asked) (sc := defScope (topS 62)) (by decide +kernel)) (fun _ _ _ _ _ => (pg_name (i := 6) sc_asked.nd rfl (Or.inl rfl))) (fun _ _ _ _ _ => (pts_one (pt_cmpR (op_neD hr.units) (pc0 (ok_next T) hr (pa_cons (pv 0) (pa_cons (pv 4) (pa_cons (pv 6) pa_nil)))) (pe_lst (pa_cons (pe_ix ix_tup (pe_dget hu (pe_dget hu (pv 2) (pv 5) (fun _ _ => rfl)) (pv 6) (fun _ _ => rfl)) pe_int (fun _ _ => rfl)) pa_nil)) (nomark _)))) (fun _ _ _ _ _ => pe_int))) (pe_lst pa_nil) (nomark _))))))), ?_⟩
    refine ⟨_, rfl, _, rfl, _, rfl, _, rfl, pd, t, B, tk, TT, st, p, es, rfl, ⟨pk, .inl hpd, hP⟩, ok, ht, hT, okT, hst, hW, fun s hb hs H1 e1 => ?_, fun hb H1 e1 => ?_⟩
    · have hs := behind_mem okT hst hb
      refine ⟨_, rfl, rfl, _, rfl, ?_⟩
      have hS1 := hS.kr (.of_ex e1)
      have hW1 := hW.kt (Kt.of_ex e1)
      refine ⟨_, rfl, _, rfl, v, p, B, TT, st, es, rfl, hS1, ok, okT, hW1, fun H2 q2 e2 hq2 => ?_⟩
      refine ⟨_, rfl, sz1000 (by show 1 ≤ 1000; decide), fun q3 hq3 => ?_⟩
      have x3 := Ex.new (o := .lst [V.str s]) hq3
      have h3 : (upd H2 q3 (.lst [V.str s])) q3 = some (.lst (told (some s))) := upd_same
      have h2 := x3 _ _ hq2
      have e3 := (e1.trans e2).trans x3
      generalize upd H2 q3 (.lst [V.str s]) = H3 at x3 h3 h2 e3 ⊢
      rw [hb] at h2
      have sok : PyData.strOk s = true := nm_strOk (okT.nm s hs)
      have sh : SeqAt.shaped (toldD (some s)) = true := shapTold fun s' z => by cases z; exact sok
      refine ⟨toldD (some s), toldD (some s), dpTold h2, dpTold h3, sh, sh, _, rfl, ?_⟩
      rw [eqv_same sh]
      -- the dict of pairs walked under a lock
      have hpd3 := e3 _ _ hpd
      refine ⟨pd, _, hpd3, trivial, fun od => ?_⟩
      have kl : Kr H3 (upd H3 pd (.frz od (.dK pk))) := Kr.lock hpd3
      refine ⟨_, rfl, pd, od, rfl, .inl ⟨pk, upd_same, fun D hD => ?_⟩⟩
      have pl := hP.len
      have b4 := ok.n4
      refine lc_filtN (w := walk_keys) hD (by omega) (fun _ => rfl) (fun H4 e4 => e4 _ _ upd_same) (fun _ => false) (fun _ => .int 1) (fun i x Hc Hd hi e4 y => ?_) (fun H4 e4 hl4 => ?_)
      · obtain ⟨rfl, k0, v0, hk0, rfl⟩ := y
        obtain ⟨b, hb0, rfl⟩ := hP.key hk0
        have hcB : b.1 ∈ B.map (·.1) := List.mem_map.mpr ⟨b, hb0, rfl⟩
        refine ⟨Ex.refl _, fun H5 e5 Q5 q5 => ?_, fun z => nomatch z⟩
        have kr5 : Kr H3 H5 := kl.trans (.of_ex (e4.trans e5))
        have krH := (Kr.of_ex e3).trans kr5
        refine ⟨_, rfl, _, rfl, _, rfl, v, p, B, TT, st, es, b.1, rfl, hS.kr krH, ok, okT, hW.kt krH.kt, hcB, fun H6 q6 e6 hq6 => ?_⟩
        have krH6 := krH.trans (.of_ex e6)
        obtain ⟨ea, kvs, es0, kp, q1, r1, hE1, en1, hkp, hent⟩ := (hT.kr krH6).at_ okT hs
        obtain ⟨vv, hvv, ⟨pe, rfl, hpe⟩, hin, ty0, ys0, hm0, hout⟩ := hent b.1 hcB
        refine ⟨_, rfl, _, rfl, t, _, rfl, dgetS (krH6.dic ht) q1, _, rfl, ea, _, rfl, dgetS r1 hvv, pe, _, (0 : Int), _, rfl, rfl, hpe, rfl, sz1000 (by show 1 ≤ 1000; decide), fun q7 hq7 => ?_⟩
        have x7 := Ex.new (o := .lst [V.str (entOf TT s b.1).1]) hq7
        have h7 : (upd H6 q7 (.lst [V.str (entOf TT s b.1).1])) q7 = some (.lst (told (some (entOf TT s b.1).1))) := upd_same
        have h6 := x7 _ _ hq6
        rw [hb] at h6
        have sh2 : SeqAt.shaped (toldD (some (entOf TT s b.1).1)) = true := shapTold fun s' z => by cases z; exact outOk ok hm0 hout
        refine ⟨toldD (some (entOf TT s b.1).1), toldD (some (entOf TT s b.1).1), dpTold h6, dpTold h7, sh2, sh2, _, rfl, ?_⟩
        rw [eqv_same sh2]
        exact q5 _ (e6.trans x7)
      · refine ⟨e4 _ _ upd_same, sz1000 (by show 0 ≤ 1000; decide), fun q5 hq5 => ?_⟩
        have x5 : Ex H3 (upd H4 pd (.dK pk)) := ex_unlock hpd3 e4
        have hDd : D ≠ pd := by
          rintro rfl
          rw [upd_same] at hD
          cases hD
        have h5 : (upd H4 pd (.dK pk)) D = some (.lst (told none)) := by
          rw [upd_ne hDd, hl4]
          have : (List.range pk.length).filter (fun _ => false) = [] := by simp
          rw [this]; rfl
        have x6 := Ex.new (o := .lst []) hq5
        have h6 : (upd (upd H4 pd (.dK pk)) q5 (.lst [])) q5 = some (.lst (told none)) := upd_same
        have sh0 : SeqAt.shaped (toldD none) = true := shapTold fun s' z => nomatch z
        refine ⟨toldD none, toldD none, dpTold (x6 _ _ h5), dpTold h6, sh0, sh0, ?_⟩
        rw [eqv_same sh0]
        exact k _ ((e3.trans x5).trans x6)
    · refine ⟨_, rfl, rfl, _, rfl, ?_⟩
      refine iteDT rfl ?_
      have hS1 := hS.kr (.of_ex e1)
      have hW1 := hW.kt (Kt.of_ex e1)
      refine ⟨_, rfl, _, rfl, v, p, B, TT, st, es, rfl, hS1, ok, okT, hW1, fun H2 q2 e2 hq2 => ?_⟩
      refine ⟨sz1000 (by show 0 ≤ 1000; decide), fun q3 hq3 => ?_⟩
      have x3 := Ex.new (o := .lst []) hq3
      have h3 : (upd H2 q3 (.lst [])) q3 = some (.lst (told none)) := upd_same
      have h2 := x3 _ _ hq2
      have e3 := (e1.trans e2).trans x3
      generalize upd H2 q3 (.lst []) = H3 at x3 h3 h2 e3 ⊢
      rw [hb] at h2
      have sh : SeqAt.shaped (toldD none) = true := shapTold fun s' z => nomatch z
      refine ⟨toldD none, toldD none, dpTold h2, dpTold h3, sh, sh, _, rfl, ?_⟩
      refine iteBT (eqv_same sh) ?_
      obtain ⟨ns, en, pn⟩ := hP.ks
      have pl := hP.len
      have b1 := ok.n1
      have b4 := ok.n4
      have nl : ns.length = pk.length := by
        have := congrArg List.length en
        simpa using this.symm
      refine ⟨_, rfl, _, rfl, _, rfl, pd, pk, ns, rfl, .inl (e3 _ _ hpd), en, by omega, fun ys m pm _ hm => ?_⟩
      have yl : ys.length = ns.length := pm.length_eq
      have h0 : 0 < ys.length := by omega
      have xm := Ex.new (o := .lst (ys.map V.str)) hm
      have e4 := e3.trans xm
      refine ⟨m, _, (0 : Int), .str ys[0], rfl, rfl, SqL.of upd_same, atI_nat (j := 0) (by rw [List.getElem?_map, List.getElem?_eq_getElem h0]; rfl), v, p, B, TT, st, es, ys[0], rfl, hS.kr (.of_ex e4), ok, okT, hW.kt (Kt.of_ex e4), (pm.trans pn).mem_iff.mp (List.getElem_mem h0), fun H5 q5 e5 hq5 => ?_⟩
      refine ⟨sz1000 (by show 0 ≤ 1000; decide), fun q6 hq6 => ?_⟩
      have x6 := Ex.new (o := .lst []) hq6
      have h6 : (upd H5 q6 (.lst [])) q6 = some (.lst (told none)) := upd_same
      have h5 := x6 _ _ hq5
      rw [hb] at h5
      refine ⟨toldD none, toldD none, dpTold h5, dpTold h6, sh, sh, ?_⟩
      rw [eqv_same sh]
      exact k _ ((e4.trans e5).trans x6)
end Sk
namespace Sk
open PySem L2 KwX Evl RZ
theorem tnext_of {n : L2.St → Hp → Prop} {r : VK} {b c : L2.St → Hp → Prop} {σ : L2.St} {H : Hp} (h : n σ H) : tNext { nx := n, rt := r, bk := b, ct := c } σ H := h
def two {α : Type} (a b : α) (i : Nat) : α := if i = 0 then a else b
theorem at2 {f : Nat → V} {i : Nat} (h : i < 2) : atI [f 0, f 1] ((0 : Int) + (i : Nat)) = some (f i) := by
  rw [Int.zero_add]
  refine atI_nat ?_
  match i, h with
  | 0, _ => rfl
  | 1, _ => rfl
theorem at2' {f : Nat → V} {i : Nat} (h : i < 2) : atI [f 0, f 1] (i : Int) = some (f i) := by
  have := at2 (f := f) h
  rwa [Int.zero_add] at this
/-- all that the law has laid out -/
structure REnv (K : PySem.W.Frag) (CB CS d pd : Addr) (pk : List (Key × V)) (B : Bk) (tl sl vl : Addr) (tA : Nat → Addr) (tkA : Nat → List (Key × V)) (TTA : Nat → Tb) (stA : Nat → Str) (svA : Nat → Addr) (H : Hp) : Prop where
  di : Dice H d
  hpd : H pd = some (.dK pk)
  P : PKv K H pk B
  ok : BkOk B
  htl : H tl = some (.lst [.ref (tA 0), .ref (tA 1)])
  tld : tl ≠ d
  hsl : H sl = some (.lst [.str (stA 0), .str (stA 1)])
  sld : sl ≠ d
  hvl : H vl = some (.lst [.ref (svA 0), .ref (svA 1)])
  vld : vl ≠ d
  tab : ∀ i, i < 2 → H (tA i) = some (.dK (tkA i)) ∧ TDv K H (tkA i) (TTA i)
  okT : ∀ i, i < 2 → TbOk B (TTA i) ∧ stA i ∈ (TTA i).map (·.1)
  srv : ∀ i, i < 2 → ServerAt K CB CS H (svA i) B (TTA i) (stA i)
theorem dk_ne {H : Hp} {d a : Addr} {kvs : List (Key × V)} (h : Dice H d) (e : H a = some (.dK kvs)) : a ≠ d := by
  rintro rfl
  obtain ⟨_, _, _, q⟩ := h
  rw [e] at q; cases q
theorem REnv.go {K : PySem.W.Frag} {CB CS d pd : Addr} {pk : List (Key × V)} {B : Bk} {tl sl vl : Addr} {tA : Nat → Addr} {tkA : Nat → List (Key × V)} {TTA : Nat → Tb} {stA : Nat → Str} {svA : Nat → Addr} {H H' : Hp}
    (E : REnv K CB CS d pd pk B tl sl vl tA tkA TTA stA svA H) (k : Kx d H H') (D : Dice H' d) : REnv K CB CS d pd pk B tl sl vl tA tkA TTA stA svA H' :=
  ⟨D, k _ _ (dk_ne E.di E.hpd) E.hpd, E.P.kr (E.di.kr k), E.ok, k _ _ E.tld E.htl, E.tld, k _ _ E.sld E.hsl, E.sld, k _ _ E.vld E.hvl, E.vld, fun i h => ⟨k _ _ (dk_ne E.di (E.tab i h).1) (E.tab i h).1, (E.tab i h).2.kr (E.di.kr k)⟩, E.okT, fun i h => (E.srv i h).kr (E.di.kr k)⟩
/-- a list of works -/
structure WL (K : PySem.W.Frag) (H0 H : Hp) (l : Addr) (n : Nat) : Prop where
  l0 : H0 l = none
  ex : ∃ vs, H l = some (.lst vs) ∧ 1 ≤ vs.length ∧ vs.length ≤ n ∧ ∀ v ∈ vs, ∃ p es, v = .ref p ∧ WorkAt K H p es
theorem WL.go {K : PySem.W.Frag} {d : Addr} {H0 H H' : Hp} {l : Addr} {n : Nat} (h : WL K H0 H l n) (ld : l ≠ d) (D : Dice H d) (k : Kx d H H') : WL K H0 H' l n :=
  let ⟨l0, vs, h1, h2, h3, h4⟩ := h; ⟨l0, vs, k _ _ ld h1, h2, h3, fun v hv => let ⟨p, es, e, w⟩ := h4 v hv; ⟨p, es, e, w.kt (D.kr k).kt⟩⟩
theorem cut_take {xs : List V} {r : Nat} : cutV xs none (some (r : Int)) = xs.take r := by
  unfold cutV
  rw [HT.sIx_nat, HT.sIx_none, List.drop_zero, Nat.sub_zero]
  by_cases h : r ≤ xs.length
  · rw [Nat.min_eq_left h]
  · rw [Nat.min_eq_right (by omega), List.take_of_length_le (Nat.le_refl _), List.take_of_length_le (by omega)]
theorem EnsV.take {K : PySem.W.Frag} {H : Hp} {vs : List V} {es : List En} (h : EnsV K H vs es) (r : Nat) : EnsV K H (vs.take r) (es.take r) := by
  refine ⟨by rw [List.length_take, List.length_take, h.len], fun i v e hv he => ?_⟩
  rw [List.getElem?_take] at hv he
  by_cases hi : i < r
  · rw [if_pos hi] at hv he
    exact h.at_ i v e hv he
  · rw [if_neg hi] at hv; cases hv
theorem WL.cat {K : PySem.W.Frag} {H0 H H2 : Hp} {l2 : Addr} {n : Nat} {vs us : List V} (v1 : 1 ≤ vs.length) (vn : vs.length ≤ n) (hv : ∀ v ∈ vs, ∃ p es, v = .ref p ∧ WorkAt K H p es) (e : Ex H H2) (hl : H2 l2 = none) (h0 : H0 l2 = none)
    (hu : ∀ v ∈ us, ∃ p es, v = .ref p ∧ WorkAt K H2 p es) : WL K H0 (upd H2 l2 (.lst (vs ++ us))) l2 (n + us.length) := by
  have x := Ex.new (o := .lst (vs ++ us)) hl
  refine ⟨h0, _, upd_same, by rw [List.length_append]; omega, by rw [List.length_append]; omega, fun v h => ?_⟩
  rcases List.mem_append.mp h with h | h
  · obtain ⟨p, es, q, w⟩ := hv v h
    exact ⟨p, es, q, w.kt (Kt.of_ex (e.trans x))⟩
  · obtain ⟨p, es, q, w⟩ := hu v h
    exact ⟨p, es, q, w.kt (Kt.of_ex x)⟩
theorem WL.app {K : PySem.W.Frag} {H0 H : Hp} {l : Addr} {n : Nat} {vs : List V} {v : V} (h0 : H0 l = none) (hl : H l = some (.lst vs)) (vn : vs.length ≤ n) (hv : ∀ v ∈ vs, ∃ p es, v = .ref p ∧ WorkAt K H p es) (hu : ∃ p es, v = .ref p ∧ WorkAt K H p es) :
    WL K H0 (upd H l (.lst (vs ++ [v]))) l (n + 1) := by
  have k : Kt K H (upd H l (.lst (vs ++ [v]))) := (Kr.lst hl).kt
  refine ⟨h0, _, upd_same, by rw [List.length_append]; show 1 ≤ _ + 1; omega, by rw [List.length_append]; show _ + 1 ≤ _; omega, fun w h => ?_⟩
  rcases List.mem_append.mp h with h | h
  · obtain ⟨p, es, q, z⟩ := hv w h
    exact ⟨p, es, q, z.kt k⟩
  · obtain ⟨p, es, q, z⟩ := hu
    rw [List.mem_singleton.mp h]
    exact ⟨p, es, q, z.kt k⟩
def manys : List V := [.int 1, .int 2, .int 5, .int 9, .int 20, .int 60]
theorem manys_nat {x : V} (h : x ∈ manys) : ∃ n : Nat, x = .int (n : Int) ∧ n ≤ 60 := by
  simp only [manys, List.mem_cons, List.not_mem_nil, or_false] at h
  rcases h with h | h | h | h | h | h
  · exact ⟨1, h, by decide⟩
  · exact ⟨2, h, by decide⟩
  · exact ⟨5, h, by decide⟩
  · exact ⟨9, h, by decide⟩
  · exact ⟨20, h, by decide⟩
  · exact ⟨60, h, by decide⟩
def sp_right : Sp := fun vs H Q _ => ∃ (d : Addr), vs = [.ref d] ∧ Dice H d ∧ ∀ H', Kx d H H' → Q (.bl true) H'
def sp_law (K : PySem.W.Frag) : Sp := fun vs H Q _ => ∃ (a : Addr) (ns : List Int), vs = [.ref a] ∧ SqL K H a (ns.map V.int) ∧ ns.length ≤ 63 ∧ ∀ H', Q (.bl true) H'
abbrev N_right : List Str := ["_law_dice_here", "_law_pairs_here", "_law_book", "_law_tables", "_law_starts", "_law_table_here", "_law_servers", "_law_at", "_law_works_here", "_law_many", "_law_work", "_law_state_here", "_law_turn"]
theorem sc_right : FnScope N_right ["_law_dice_here"] (defScope (topS 63)) := ⟨rfl, rfl, rfl, by decide +kernel, rfl, by decide +kernel, by decide +kernel⟩
theorem ok_right {P : Program} {w : World} {K : PySem.W.Frag} {mg : Str → Option Value} {base : Heap} {CB CS CI : Addr} (T : Txt K mg CB CS CI) : Cl P w K mg base CX0 10 "_law_right" ["_law_dice_here"] sp_right := T.f_right.cl fun f fd F => by
  refine F.ok sc_right (fun vs H Q E h => ?_) (fun cdv A outer s H vs Q E hr h => ?_)
  · obtain ⟨d, rfl, _⟩ := h
    rfl
  · obtain ⟨d, rfl, hD, k⟩ := h
    have hu := hu_of hr
    obtain ⟨pg, gg, fdg, mc, cr, cm, FB, bB⟩ := T.ofB
    have Fr : FnR P w K mg base CX0 7 gg (sp_book_of K CB) := ((ok_book_of T FB).raw bB .nil).imp fun vs H Q E h => by rw [List.append_nil]; exact h
    obtain ⟨fS, fdS, MS, FS, kS⟩ := T.mkS
    refine ⟨_, (pss_cons (ps_set (i := 1) sc_right.nd rfl (Or.inl rfl) (pc0 (ok_pairs T) hr (pa_cons (pv 0) (pa_cons pe_int pa_nil))))
      (pss_cons (ps_set (i := 2) sc_right.nd rfl (Or.inr rfl) (ClX.pe_cmeth (E := E0) (pgR T.gB) cr cm Fr (hr.mono (by decide)) pass0 (pa_cons (pv 1) pa_nil)))
      (pss_cons (ps_set (i := 3) sc_right.nd rfl (Or.inr rfl) (pe_lst (pa_cons (pc0 (ok_table T) hr (pa_cons (pv 0) (pa_cons (pv 1) (pa_cons pe_int pa_nil)))) (pa_cons (pc0 (ok_table T) hr (pa_cons (pv 0) (pa_cons (pv 1) (pa_cons pe_int pa_nil)))) pa_nil))))
      (pss_cons (ps_set (i := 4) sc_right.nd rfl (Or.inr rfl) (pe_lc (own := [("_law_table_here", 5)]) (g := gName 5) (tt := tYes) rfl sc_right.nd (pi_list (pv 3)) (blkOk_by (N := N_right) (sc := defScope (topS 63)) (by decide +kernel)) (fun _ _ _ _ _ => (pg_name (i := 5) sc_right.nd rfl (Or.inl rfl))) (fun _ _ _ _ _ => pts_nil) (fun _ _ _ _ _ => (pc0 (ok_one_of T) hr (pa_cons (pv 0) (pa_cons (pe_callB (call_sortedD rfl) (by rfl) T.zsorted bt_sorted (pa_cons (pv 5) pa_nil)) pa_nil))))))
      (pss_cons (ps_setLc (te := tMakeK CS 2 (["start"] : List Str).length (sp_server_init K CB CS) (fun vs zs => vs ++ zs) E0 (tCons (tVar 2) (tCons (tOp (rIxL K) (tVar 3) (tVar 7)) tNil)) (tCons (tOp (rIxL K) (tVar 4) (tVar 7)) tNil)) (i := 6) (own := [("_law_at", 7)]) (g := gName 7) (tt := tYes) rfl sc_right.nd rfl rfl (sw_true rfl rfl rfl (by decide +kernel)) (pi_range1 rfl T.zrange (pa_cons pe_int pa_nil)) (blkOk_by (N := N_right) (sc := defScope (topS 63)) (by decide +kernel)) (fun _ _ _ _ _ => (pg_name (i := 7) sc_right.nd rfl (Or.inl rfl))) (fun _ _ _ _ _ => pts_nil) (fun _ _ _ _ _ => (pe_makeK (E := E0) (n := 2) (ks := ["start"]) MS (ok_server_init T FS) (hr.mono (by decide)) rfl T.gS kS pass0 (pa_cons (pv 2) (pa_cons (pe_ix ix_list (pv 3) (pv 7) (fun _ _ => rfl)) pa_nil)) (pk_cons (pe_ix ix_list (pv 4) (pv 7) (fun _ _ => rfl)) pk_nil))))
      (pss_cons (ps_set (i := 8) sc_right.nd rfl (Or.inl rfl) (pe_lst (pa_cons (pe_tup pa_nil) pa_nil)))
      (pss_cons (ps_for PassesOwn.never rfl (pi_range1 rfl T.zrange (pa_cons pe_int pa_nil)) (pg_name (i := 7) sc_right.nd rfl (Or.inl rfl))
      (pss_cons (ps_set (i := 9) sc_right.nd rfl (Or.inl rfl) (pc0 (ok_one_of T) hr (pa_cons (pv 0) (pa_cons (pe_lst (pa_cons pe_int (pa_cons pe_int (pa_cons pe_int (pa_cons pe_int (pa_cons pe_int (pa_cons pe_int pa_nil))))))) pa_nil))))
      (pss_cons (ps_asg (pc0 (ok_works T) hr (pa_cons (pv 0) (pa_cons (pv 1) (pa_cons (pe_ix ix_list (pv 3) (pv 7) (fun _ _ => rfl)) (pa_cons (pe_ix ix_list (pv 4) (pv 7) (fun _ _ => rfl)) (pa_cons (pv 9) pa_nil)))))) (pg_tup (by rfl) (pgs_cons (pg_name (i := 10) sc_right.nd rfl (Or.inl rfl)) (pgs_cons (pg_name (i := 11) sc_right.nd rfl (Or.inl rfl)) pgs_nil))))
      (pss_cons (ps_if (pt_cmpR op_ne (pe_callOW (E := fun _ => E0) (ol_server T) hr (fun σ => passE0 σ) (pe_ix ix_list (pv 6) (pv 7) (fun _ _ => rfl)) (pa_cons (pv 10) pa_nil)) (pv 11) (nomark _)) (pss_one (ps_ret pe_bl)) pss_nil)
      (pss_cons (ps_set (i := 8) sc_right.nd rfl (Or.inl rfl) (pe_op op_cat (pv 8) (pe_lst (pa_cons (pv 10) (pa_cons (pe_slice sl_tupA (pv 10) po_none (po_some (pc0 (ok_roll T) hr (pa_cons (pv 0) (pa_cons (pe_op op_add (pe_callB call_len_seq (by rfl) T.zlen bt_len (pa_cons (pv 10) pa_nil)) pe_int) pa_nil))))) (pa_cons (pe_op op_catA (pv 10) (pe_tup (pa_cons (pe_tup (pa_cons pe_str pa_nil)) pa_nil))) pa_nil))))))
      (pss_one (ps_for PassesOwn.never rfl (pi_range1 rfl T.zrange (pa_cons pe_int pa_nil)) (pg_name (i := 12) sc_right.nd rfl (Or.inl rfl))
      (pss_cons (ps_expr (pe_bm PySem.F.plainAttrs_list PySem.F.slot_list_append PySem.F.type_list_append mt_append (pv 8) (pa_cons (pc0 (ok_spoilt T) hr (pa_cons (pv 0) (pa_cons (pv 1) (pa_cons (pe_slice sl_tupA (pv 10) po_none (po_some (pc0 (ok_roll T) hr (pa_cons (pv 0) (pa_cons pe_int pa_nil))))) pa_nil)))) pa_nil)))
      (pss_one (ps_expr (pe_bm PySem.F.plainAttrs_list PySem.F.slot_list_append PySem.F.type_list_append mt_append (pv 8) (pa_cons (pc0 (ok_spoilt T) hr (pa_cons (pv 0) (pa_cons (pv 1) (pa_cons (pv 10) pa_nil)))) pa_nil))))))))))))
      (pss_cons (ps_for PassesOwn.never rfl (pi_list (pv 8)) (pg_name (i := 10) sc_right.nd rfl (Or.inl rfl))
      (pss_one (ps_for PassesOwn.never rfl (pi_range1 rfl T.zrange (pa_cons pe_int pa_nil)) (pg_name (i := 7) sc_right.nd rfl (Or.inl rfl))
      (pss_one (ps_if (pt_not (pt_val (pc0 (ok_asked T) hr (pa_cons (pe_ix ix_list (pv 6) (pv 7) (fun _ _ => rfl)) (pa_cons (pv 1) (pa_cons (pe_ix ix_list (pv 3) (pv 7) (fun _ _ => rfl)) (pa_cons (pe_ix ix_list (pv 4) (pv 7) (fun _ _ => rfl)) (pa_cons (pv 10) pa_nil)))))))) (pss_one (ps_ret pe_bl)) pss_nil)))))
      (pss_cons (ps_set (i := 7) sc_right.nd rfl (Or.inl rfl) (pc0 (ok_roll T) hr (pa_cons (pv 0) (pa_cons pe_int pa_nil))))
      (pss_one (ps_ret (pc0 (ok_asked T) hr (pa_cons (pe_ix ix_list (pv 6) (pv 7) (fun _ _ => rfl)) (pa_cons (pv 1) (pa_cons (pe_ix ix_list (pv 3) (pv 7) (fun _ _ => rfl)) (pa_cons (pe_ix ix_list (pv 4) (pv 7) (fun _ _ => rfl)) (pa_cons (pc0 (ok_one_of T) hr (pa_cons (pv 0) (pa_cons (pv 8) pa_nil))) pa_nil))))))))))))))))), ?_⟩
    refine ⟨_, rfl, d, rfl, hD, fun H1 pd pk B kx1 D1 hpd0 hpd1 hP1 ok => ?_⟩
    refine ⟨rfl, _, rfl, pd, pk, B, rfl, hpd1, hP1, ok, fun H2 b e2 hb0 hB2 => ?_⟩
    have D2 := D1.ex e2
    have kx2 := kx1.trans (.of_ex e2)
    have hpd2 := e2 _ _ hpd1
    have hP2 := hP1.kr (.of_ex e2)
    refine ⟨_, rfl, _, rfl, d, pd, B, 12, rfl, D2, ⟨pk, .inl hpd2, hP2⟩, ok, by decide, by decide, fun H3 t1 tk1 TT1 kx3 D3 ht10 ht1 hT1 okT1 => ?_⟩
    have hpd3 := kx3 _ _ (dk_ne D2 hpd2) hpd2
    have hP3 := hP2.kr (D2.kr kx3)
    refine ⟨_, rfl, _, rfl, d, pd, B, 3, rfl, D3, ⟨pk, .inl hpd3, hP3⟩, ok, by decide, by decide, fun H4 t2 tk2 TT2 kx4 D4 ht20 ht2 hT2 okT2 => ?_⟩
    refine ⟨sz1000 (by show 2 ≤ 1000; decide), fun tl htl => ?_⟩
    have ht13 := kx4 _ _ (dk_ne D3 ht1) ht1
    have hT13 := hT1.kr (D3.kr kx4)
    have hpd4 := kx4 _ _ (dk_ne D3 hpd3) hpd3
    have hP4 := hP3.kr (D3.kr kx4)
    have hB4 : BookAt K CB H4 b B := (hB2.kr (D2.kr kx3)).kr (D3.kr kx4)
    have kx04 := (kx2.trans kx3).trans kx4
    have x5 := Ex.new (o := .lst [V.ref t1, .ref t2]) htl
    have htl5 : (upd H4 tl (.lst [V.ref t1, .ref t2])) tl = some (.lst [.ref (two t1 t2 0), .ref (two t1 t2 1)]) := upd_same
    have htd := D4.ne htl
    have tab5 : ∀ i, i < 2 → (upd H4 tl (.lst [V.ref t1, .ref t2])) (two t1 t2 i) = some (.dK (two tk1 tk2 i)) ∧ TDv K (upd H4 tl (.lst [V.ref t1, .ref t2])) (two tk1 tk2 i) (two TT1 TT2 i) ∧ TbOk B (two TT1 TT2 i) := fun i hi => by
      match i, hi with
      | 0, _ => exact ⟨x5 _ _ ht13, hT13.kr (.of_ex x5), okT1⟩
      | 1, _ => exact ⟨x5 _ _ ht2, hT2.kr (.of_ex x5), okT2⟩
    generalize upd H4 tl (.lst [V.ref t1, .ref t2]) = H5 at x5 htl5 tab5 ⊢
    generalize two t1 t2 = tA at htl5 tab5
    generalize two tk1 tk2 = tkA at tab5
    generalize two TT1 TT2 = TTA at tab5
    have D5 := D4.ex x5
    have hpd5 := x5 _ _ hpd4
    have hP5 := hP4.kr (.of_ex x5)
    have hB5 := hB4.kr (.of_ex x5)
    have kx05 := kx04.trans (.of_ex x5)
    clear hT1 hT2 hT13 ht1 ht2 ht13
    refine ⟨_, rfl, tl, rfl, ⟨_, SqL.of htl5⟩, fun sl hsl => ?_⟩
    have hsl0 := hD.free D5 kx05 hsl
    have hsd := D5.ne hsl
    refine lc_it (w := walk_list (xs := [V.ref (tA 0), .ref (tA 1)])) (fun i H' => Kx d H5 H' ∧ Dice H' d ∧ ∃ sts : List Str, H' sl = some (.lst (sts.map V.str)) ∧ sts.length = i ∧ ∀ j s, sts[j]? = some s → s ∈ (TTA j).map (·.1))
      ⟨Kx.new hsl, D5.upd hsd, [], upd_same, rfl, fun j s h => by simp at h⟩ (fun i H' _ p => SqL.of (p.1 _ _ htd htl5)) (fun i x Ha Hb hi p y => ?_) (fun H6 p => ?_)
    · obtain ⟨rfl, hx⟩ := y
      obtain ⟨kx, Di, sts, hst, stl, hall⟩ := p
      have hi : i < 2 := hi
      have ex0 : x = .ref (tA i) := by
        match i, hi with
        | 0, _ => exact (Option.some.inj hx).symm
        | 1, _ => exact (Option.some.inj hx).symm
      subst ex0
      obtain ⟨hti, hTi, okTi⟩ := tab5 i hi
      have hti' := kx _ _ (dk_ne D5 hti) hti
      obtain ⟨ss, en, ps⟩ := hTi.ks
      have sl12 := okTi.n12
      have sl1 := okTi.n1
      have ssl : ss.length = (TTA i).length := by
        have := ps.length_eq
        rw [List.length_map] at this
        exact this
      refine ⟨rfl, ?_⟩
      refine tyes ?_
      refine ⟨_, rfl, _, rfl, tA i, tkA i, ss, rfl, .inl hti', en, by omega, fun ys m pm _ hm => ?_⟩
      have yl : ys.length = ss.length := pm.length_eq
      have xm := Ex.new (o := .lst (ys.map V.str)) hm
      refine ⟨d, m, _, rfl, Di.ex xm, upd_same, Di.ne hm, by rw [List.length_map]; omega, by rw [List.length_map]; omega, fun H7 x kx7 D7 hx => ?_⟩
      obtain ⟨s0, hs0, rfl⟩ := List.mem_map.mp hx
      have kxb := (Kx.of_ex xm).trans kx7
      have hst7 := kxb _ _ hsd hst
      refine ⟨_, hst7, szlt (by rw [List.length_map]; omega), (kx.trans kxb).mut hsl, D7.upd hsd, sts ++ [s0], by rw [upd_same, List.map_append]; rfl, by rw [List.length_append, stl]; rfl, fun j s h => ?_⟩
      by_cases hj : j < sts.length
      · rw [List.getElem?_append_left hj] at h
        exact hall j s h
      · have : j = sts.length := by
          have := (List.getElem?_eq_some_iff.mp h).1
          rw [List.length_append, List.length_singleton] at this
          omega
        subst this
        rw [List.getElem?_append_right (Nat.le_refl _), Nat.sub_self] at h
        cases h
        rw [stl]
        exact (pm.trans ps).mem_iff.mp hs0
    obtain ⟨kx6, D6, sts, hst, stl, hall⟩ := p
    have stl : sts.length = 2 := stl
    obtain ⟨s1, s2, rfl⟩ : ∃ a b, sts = [a, b] := by
      match sts, stl with
      | [a, b], _ => exact ⟨a, b, rfl⟩
    have hst6 : H6 sl = some (.lst [.str (two s1 s2 0), .str (two s1 s2 1)]) := hst
    have hstT : ∀ i, i < 2 → two s1 s2 i ∈ (TTA i).map (·.1) := fun i hi => by
      match i, hi with
      | 0, _ => exact hall 0 s1 rfl
      | 1, _ => exact hall 1 s2 rfl
    clear hst hall
    generalize two s1 s2 = stA at hst6 hstT
    have hpd6 := kx6 _ _ (dk_ne D5 hpd5) hpd5
    have kr56 := D5.kr kx6
    have hP6 := hP5.kr kr56
    have hB6 := hB5.kr kr56
    have htl6 := kx6 _ _ htd htl5
    have tab6 : ∀ i, i < 2 → H6 (tA i) = some (.dK (tkA i)) ∧ TDv K H6 (tkA i) (TTA i) := fun i hi => ⟨kx6 _ _ (dk_ne D5 (tab5 i hi).1) (tab5 i hi).1, (tab5 i hi).2.1.kr kr56⟩
    have okTT : ∀ i, i < 2 → TbOk B (TTA i) := fun i hi => (tab5 i hi).2.2
    have kx06 := kx05.trans kx6
    clear tab5
    refine ⟨2, rfl, by decide, by decide, fun vl hvl => ?_⟩
    have hvd := D6.ne hvl
    refine lc_it (w := walk_range) (fun i H' => Ex H6 H' ∧ ∃ svs : List Addr, H' vl = some (.lst (svs.map V.ref)) ∧ svs.length = i ∧ ∀ j v, svs[j]? = some v → ServerAt K CB CS H' v B (TTA j) (stA j))
      ⟨Ex.new hvl, [], upd_same, rfl, fun j s h => by simp at h⟩ (fun _ _ _ _ => trivial) (fun i x Ha Hb hi p y => ?_) (fun H7 p => ?_)
    · obtain ⟨rfl, rfl⟩ := y
      obtain ⟨e, svs, hsv, svl, hall⟩ := p
      have hi : i < 2 := hi
      refine ⟨rfl, ?_⟩
      refine tyes ?_
      refine ⟨_, rfl, _, rfl, _, rfl, tl, _, _, _, rfl, rfl, SqL.of (e _ _ htl6), at2 (f := fun i => V.ref (tA i)) hi, _, rfl, _, rfl, sl, _, _, _, rfl, rfl, SqL.of (e _ _ hst6), at2 (f := fun i => V.str (stA i)) hi, rfl, rfl, fun x dx hx hdx hne => ?_⟩
      obtain ⟨hti, hTi⟩ := tab6 i hi
      have xa := Ex.new (o := .own x) hdx
      have hx2 : (upd Hb dx (.own x)) x = none := by rw [upd_ne (Ne.symm hne)]; exact hx
      have xb := xa.trans (Ex.new (o := .ins CS dx []) hx2)
      have e2 := e.trans xb
      have hbx : b ≠ x := fun z => by
        obtain ⟨dz, pz, hz, _⟩ := hB6
        rw [← z, e _ _ hz] at hx
        cases hx
      refine ⟨x, dx, b, tA i, B, tkA i, TTA i, stA i, rfl, upd_same, hB6.kr (.of_ex e2), ok, e2 _ _ hti, hTi.kr (.of_ex e2), okTT i hi, hstT i hi, hbx, fun H8 kp hS => ⟨rfl, ?_⟩⟩
      have e8 : Ex Hb H8 := fun a o ha => kp a o (ne_of_none ha hx) (xb a o ha)
      have hsv8 := e8 _ _ hsv
      have kr8 : Kr H8 (upd H8 vl (.lst (svs.map V.ref ++ [.ref x]))) := Kr.lst hsv8
      refine ⟨_, hsv8, szlt (by rw [List.length_map]; omega), Ex.mut (e.trans e8) hvl, svs ++ [x], by rw [upd_same, List.map_append]; rfl, by rw [List.length_append, svl]; rfl, fun j v h => ?_⟩
      by_cases hj : j < svs.length
      · rw [List.getElem?_append_left hj] at h
        exact (hall j v h).kr ((Kr.of_ex e8).trans kr8)
      · have : j = svs.length := by
          have := (List.getElem?_eq_some_iff.mp h).1
          rw [List.length_append, List.length_singleton] at this
          omega
        subst this
        rw [List.getElem?_append_right (Nat.le_refl _), Nat.sub_self] at h
        cases h
        rw [svl]
        exact hS.kr kr8
    obtain ⟨e67, svs, hsv, svl, hall⟩ := p
    have svl : svs.length = 2 := svl
    obtain ⟨v1, v2, rfl⟩ : ∃ a b, svs = [a, b] := by
      match svs, svl with
      | [a, b], _ => exact ⟨a, b, rfl⟩
    have hsv7 : H7 vl = some (.lst [.ref (two v1 v2 0), .ref (two v1 v2 1)]) := hsv
    have srv : ∀ i, i < 2 → ServerAt K CB CS H7 (two v1 v2 i) B (TTA i) (stA i) := fun i hi => by
      match i, hi with
      | 0, _ => exact hall 0 v1 rfl
      | 1, _ => exact hall 1 v2 rfl
    clear hsv hall
    generalize two v1 v2 = svA at hsv7 srv
    have ENV : REnv K CB CS d pd pk B tl sl vl tA tkA TTA stA svA H7 :=
      ⟨D6.ex e67, e67 _ _ hpd6, hP6.kr (.of_ex e67), ok, e67 _ _ htl6, htd, e67 _ _ hst6, hsd, hsv7, hvd, fun i hi => ⟨e67 _ _ (tab6 i hi).1, (tab6 i hi).2.kr (.of_ex e67)⟩, fun i hi => ⟨okTT i hi, hstT i hi⟩, srv⟩
    have kx07 := kx06.trans (.of_ex e67)
    clear srv hsv7 e67 tab6 hst6 htl6 hB6 hP6 hpd6 kr56 hB5 hP5 hpd5
    refine ⟨sz1000 (by show 0 ≤ 1000; decide), fun p0 hp0 => ?_⟩
    have z0 := Ex.new (o := .tup []) hp0
    have h0 : (upd H7 p0 (.tup [])) p0 = some (.tup []) := upd_same
    generalize upd H7 p0 (.tup []) = H8 at z0 h0 ⊢
    refine ⟨sz1000 (by show 1 ≤ 1000; decide), fun wl0 hwl0 => ?_⟩
    have z1 := z0.trans (Ex.new (o := .lst [V.ref p0]) hwl0)
    have WL0 : WL K H7 (upd H8 wl0 (.lst [V.ref p0])) wl0 1 := ⟨fresh_back z0 hwl0, _, upd_same, Nat.le_refl _, Nat.le_refl _, fun v hv => ⟨p0, [], List.mem_singleton.mp hv, [], SqT.of (Ex.new hwl0 _ _ h0), ⟨rfl, fun i v e h => by simp at h⟩, by decide⟩⟩
    have D9 := ENV.di.ex z1
    generalize upd H8 wl0 (.lst [V.ref p0]) = H9 at z1 WL0 D9 ⊢
    refine ⟨2, rfl, by decide, by decide, ?_⟩
    refine for_it (w := walk_range) (fun i σ H' => ∃ wl x5 x7 x9 x10 x11 x12, σ = [some (.ref d), some (.ref pd), some (.ref b), some (.ref tl), some (.ref sl), x5, some (.ref vl), x7, some (.ref wl), x9, x10, x11, x12] ∧ Kx d H7 H' ∧ Dice H' d ∧ WL K H7 H' wl (1 + 9 * i))
      ⟨wl0, _, _, _, _, _, _, rfl, .of_ex z1, D9, WL0⟩ (fun _ _ _ _ _ => trivial) (fun i x σ Ha Hb hi p y => ?_) (fun σ HL p => ?_)
    · obtain ⟨rfl, rfl⟩ := y
      obtain ⟨wl, x5, x7, x9, x10, x11, x12, rfl, kx, Di, hWL⟩ := p
      have hi : i < 2 := hi
      have wld := ENV.di.ne hWL.l0
      have EI := ENV.go kx Di
      refine ⟨_, rfl, sz1000 (by show 6 ≤ 1000; decide), fun m hm => ?_⟩
      have y1 := Ex.new (o := .lst manys) hm
      refine ⟨d, m, manys, rfl, Di.ex y1, upd_same, Di.ne hm, by decide, by decide, fun H2 x kx2 D2 hx => ?_⟩
      obtain ⟨n, rfl, n60⟩ := manys_nat hx
      have kxa := (Kx.of_ex y1).trans kx2
      have E2 := EI.go kxa D2
      have WL2 := hWL.go wld Di kxa
      have kx02 := kx.trans kxa
      clear EI
      obtain ⟨hti, hTi⟩ := E2.tab i hi
      obtain ⟨okTi, hsti⟩ := E2.okT i hi
      refine ⟨_, rfl, _, rfl, _, rfl, _, rfl, tl, _, _, _, rfl, rfl, SqL.of E2.htl, at2 (f := fun i => V.ref (tA i)) hi, _, rfl, _, rfl, sl, _, _, _, rfl, rfl, SqL.of E2.hsl, at2 (f := fun i => V.str (stA i)) hi, _, rfl, d, pd, tA i, B, tkA i, TTA i, stA i, n, rfl, D2, ⟨pk, .inl E2.hpd, E2.P⟩, ok, .inl hti, hTi, okTi, hsti, n60, fun H3 q p es s0 kx3 D3 hq hW3 l120 hsh hbe hsn => ?_⟩
      refine ⟨q, _, rfl, hq, rfl, _, _, rfl, _, _, rfl, rfl, ?_⟩
      have E3 := E2.go kx3 D3
      have WL3 := WL2.go wld D2 kx3
      have kx03 := kx02.trans kx3
      obtain ⟨dxv, bv, tv, tkv, hsvv, _⟩ := id (E3.srv i hi)
      refine ⟨_, rfl, _, rfl, vl, _, _, _, rfl, rfl, SqL.of E3.hvl, at2 (f := fun i => V.ref (svA i)) hi, svA i, rfl, _, rfl, ⟨dxv, _, hsvv⟩, svA i, p, B, TTA i, stA i, es, rfl, E3.srv i hi, ok, okTi, hW3, fun s' hb' _ H4 e4 => ?_, fun hb' => by rw [hbe] at hb'; cases hb'⟩
      have es' : s' = s0 := by rw [hbe] at hb'; exact (Option.some.inj hb').symm
      subst es'
      refine ⟨_, rfl, rfl, _, rfl, ?_⟩
      refine iteNT rfl ?_
      have D4 := D3.ex e4
      have WL4 := WL3.go wld D3 (.of_ex e4)
      have kx04 := kx03.trans (.of_ex e4)
      have hW4 := hW3.kt (Kt.of_ex e4)
      clear E2 E3 WL2 WL3 hWL hTi hti
      refine tnext_of ?_
      show tSeq (tAsg (tOp rCat _ _) _) _ _ _ _
      refine seq_use (fun σ' H' => ∃ wl, σ' = [some (.ref d), some (.ref pd), some (.ref b), some (.ref tl), some (.ref sl), x5, some (.ref vl), some (.int (0 + (i : Nat))), some (.ref wl), some (.int (n : Int)), some (.ref p), some (.str s'), x12] ∧ Kx d H7 H' ∧ Dice H' d ∧ WL K H7 H' wl (1 + 9 * i + 3) ∧ WorkAt K H' p es) (fun R hR => ?_) (fun σ1 H1 hI => ?_)
      · obtain ⟨w0, wvs, hwl4, wv1, wvn, hwv4⟩ := WL4
        obtain ⟨vs, hp4, hes4, _⟩ := id hW4
        refine ⟨_, rfl, _, rfl, _, rfl, _, rfl, _, rfl, p, vs, rfl, .inr hp4, _, _, rfl, rfl, d, _, rfl, D4, by omega, by have := hes4.len; omega, fun H5 r kx5 D5 hr5 => ?_⟩
        have kr5 := D4.kr kx5
        have hwl5 := kx5 _ _ wld hwl4
        have hwv5 : ∀ v ∈ wvs, ∃ p es, v = .ref p ∧ WorkAt K H5 p es := fun v hv => let ⟨a, b, c, z⟩ := hwv4 v hv; ⟨a, b, c, z.kt kr5.kt⟩
        have hW5 := hW4.kt kr5.kt
        have hp5 := kr5.tup hp4
        have kx05 := kx04.trans kx5
        refine ⟨_, rfl, p, vs, rfl, hp5, fun _ => ?_, fun _ p2 hp2 => ?_⟩
        · have hW2 := hW5
          have hWs := hW5
          have Ds := D5
          have kxs := kx05
          have hws := hwl5
          have hwvs := hwv5
          have hes5 := hes4
          generalize H5 = Hs at hW2 hWs Ds kxs hws hwvs ⊢
          clear hp5 hp4 hes4 hW4 hW5
          refine ⟨_, rfl, sz1000 (by show 1 ≤ 1000; decide), fun q1 hq1 => ?_⟩
          have y1 := Ex.new (o := .tup [V.str "kept"]) hq1
          have g1 : (upd Hs q1 (.tup [V.str "kept"])) q1 = some (.tup [V.str "kept"]) := upd_same
          generalize upd Hs q1 (.tup [V.str "kept"]) = Ht at y1 g1 ⊢
          refine ⟨sz1000 (by show 1 ≤ 1000; decide), fun q2 hq2 => ?_⟩
          have y2 := y1.trans (Ex.new (o := .tup [V.ref q1]) hq2)
          have g12 := Ex.new (o := .tup [V.ref q1]) hq2 _ _ g1
          have g2 : (upd Ht q2 (.tup [V.ref q1])) q2 = some (.tup [V.ref q1]) := upd_same
          generalize upd Ht q2 (.tup [V.ref q1]) = Hu at y2 g12 g2 ⊢
          obtain ⟨vs, hp, hes, hl⟩ := hWs.kt (Kt.of_ex y2)
          have vsl := hes.len
          have hk1 : WorkAt K Hu q2 [.kept] := ⟨_, SqT.of g2, ⟨rfl, fun i v e hv he => by
            match i with
            | 0 => cases hv; cases he; exact ⟨q1, rfl, SqT.of g12⟩
            | i + 1 => simp at hv⟩, by decide⟩
          have Du := Ds.ex y2
          have kxu := kxs.trans (.of_ex y2)
          have hwu := y2 _ _ hws
          have hwvu : ∀ v ∈ wvs, ∃ p es, v = .ref p ∧ WorkAt K Hu p es := fun v hv => let ⟨a, b, c, z⟩ := hwvs v hv; ⟨a, b, c, z.kt (Kt.of_ex y2)⟩
          have hW2u := hW2.kt (Kt.of_ex y2)
          have hWu : WorkAt K Hu p es := ⟨vs, hp, hes, hl⟩
          refine ⟨p, q2, vs, _, rfl, rfl, hp, SqT.of g2, sz1000 (by show _ + 1 ≤ 1000; omega), fun hn => ?_, fun _ hn => ?_, fun hn _ p3 hp3 => ?_⟩
          · have hW3 := hk1
            have Dz := Du
            have kxz := kxu
            have hwlz := hwu
            have hwvz := hwvu
            have hWz := hWu
            have hW2 := hW2u
            generalize Hu = Hz at Dz kxz hwlz hwvz hWz hW2 hW3 ⊢
            generalize q2 = p3 at hW3 ⊢
            refine ⟨sz1000 (by show 3 ≤ 1000; decide), fun l1 hl1 => ?_⟩
            have z1 := Ex.new (o := .lst [V.ref p, .ref p, .ref p3]) hl1
            have h1 : (upd Hz l1 (.lst [V.ref p, .ref p, .ref p3])) l1 = some (.lst [V.ref p, .ref p, .ref p3]) := upd_same
            have hwz : Hz wl = some (.lst wvs) := hwlz
            have hwz1 := z1 _ _ hwz
            have wz : ∀ v ∈ wvs, ∃ p es, v = .ref p ∧ WorkAt K Hz p es := hwvz
            have kz := kxz
            generalize upd Hz l1 (.lst [V.ref p, .ref p, .ref p3]) = Hy at z1 h1 hwz1 ⊢
            refine ⟨wl, l1, _, _, rfl, rfl, hwz1, h1, sz1000 (by show _ + 3 ≤ 1000; omega), fun l2 hl2 => ?_⟩
            have l20 : H7 l2 = none := ENV.di.free (Dz.ex z1) (kz.trans (.of_ex z1)) hl2
            refine hR _ _ ⟨l2, rfl, kz.trans (.of_ex (z1.trans (Ex.new hl2))), Dz.ex (z1.trans (Ex.new hl2)), WL.cat wv1 wvn wz z1 hl2 l20 (fun v hv => ?_), hWz.kt (Kt.of_ex (z1.trans (Ex.new hl2)))⟩
            rcases List.mem_cons.mp hv with h | h
            · exact ⟨p, _, h, hWz.kt (Kt.of_ex z1)⟩
            rcases List.mem_cons.mp h with h | h
            · exact ⟨p, _, h, hW2.kt (Kt.of_ex z1)⟩
            · exact ⟨p3, _, List.mem_singleton.mp h, hW3.kt (Kt.of_ex z1)⟩
          · cases hn
          · have y3 := Ex.new (o := .tup (vs ++ [V.ref q1])) hp3
            have g3 : (upd Hu p3 (.tup (vs ++ [V.ref q1]))) p3 = some (.tup (vs ++ [V.ref q1])) := upd_same
            have Dz := Du.ex y3
            have kxz := kxu.trans (.of_ex y3)
            have hwlz := y3 _ _ hwu
            have hwvz : ∀ v ∈ wvs, ∃ p es, v = .ref p ∧ WorkAt K (upd Hu p3 (.tup (vs ++ [V.ref q1]))) p es := fun v hv => let ⟨a, b, c, z⟩ := hwvu v hv; ⟨a, b, c, z.kt (Kt.of_ex y3)⟩
            have hWz := hWu.kt (Kt.of_ex y3)
            have hW2 := hW2u.kt (Kt.of_ex y3)
            have hW3 : WorkAt K (upd Hu p3 (.tup (vs ++ [V.ref q1]))) p3 (es ++ [.kept]) := ⟨_, SqT.of g3, (hes.kt (Kt.of_ex y3)).snoc (e := .kept) ⟨q1, rfl, SqT.of (y3 _ _ g12)⟩, by rw [List.length_append]; show _ + 1 ≤ 500; omega⟩
            generalize upd Hu p3 (.tup (vs ++ [V.ref q1])) = Hz at Dz kxz hwlz hwvz hWz hW2 hW3 ⊢
            refine ⟨sz1000 (by show 3 ≤ 1000; decide), fun l1 hl1 => ?_⟩
            have z1 := Ex.new (o := .lst [V.ref p, .ref p, .ref p3]) hl1
            have h1 : (upd Hz l1 (.lst [V.ref p, .ref p, .ref p3])) l1 = some (.lst [V.ref p, .ref p, .ref p3]) := upd_same
            have hwz : Hz wl = some (.lst wvs) := hwlz
            have hwz1 := z1 _ _ hwz
            have wz : ∀ v ∈ wvs, ∃ p es, v = .ref p ∧ WorkAt K Hz p es := hwvz
            have kz := kxz
            generalize upd Hz l1 (.lst [V.ref p, .ref p, .ref p3]) = Hy at z1 h1 hwz1 ⊢
            refine ⟨wl, l1, _, _, rfl, rfl, hwz1, h1, sz1000 (by show _ + 3 ≤ 1000; omega), fun l2 hl2 => ?_⟩
            have l20 : H7 l2 = none := ENV.di.free (Dz.ex z1) (kz.trans (.of_ex z1)) hl2
            refine hR _ _ ⟨l2, rfl, kz.trans (.of_ex (z1.trans (Ex.new hl2))), Dz.ex (z1.trans (Ex.new hl2)), WL.cat wv1 wvn wz z1 hl2 l20 (fun v hv => ?_), hWz.kt (Kt.of_ex (z1.trans (Ex.new hl2)))⟩
            rcases List.mem_cons.mp hv with h | h
            · exact ⟨p, _, h, hWz.kt (Kt.of_ex z1)⟩
            rcases List.mem_cons.mp h with h | h
            · exact ⟨p, _, h, hW2.kt (Kt.of_ex z1)⟩
            · exact ⟨p3, _, List.mem_singleton.mp h, hW3.kt (Kt.of_ex z1)⟩
        · rw [cut_take]
          have y6 := Ex.new (o := .tup (vs.take r)) hp2
          have g6 : (upd H5 p2 (.tup (vs.take r))) p2 = some (.tup (vs.take r)) := upd_same
          have hW2 : WorkAt K (upd H5 p2 (.tup (vs.take r))) p2 (es.take r) := ⟨_, SqT.of g6, ((hes4.kt kr5.kt).kt (Kt.of_ex y6)).take r, by rw [List.length_take]; omega⟩
          have hWs := hW5.kt (Kt.of_ex y6)
          have Ds := D5.ex y6
          have kxs := kx05.trans (.of_ex y6)
          have hws := y6 _ _ hwl5
          have hwvs : ∀ v ∈ wvs, ∃ p es, v = .ref p ∧ WorkAt K (upd H5 p2 (.tup (vs.take r))) p es := fun v hv => let ⟨a, b, c, z⟩ := hwv5 v hv; ⟨a, b, c, z.kt (Kt.of_ex y6)⟩
          generalize upd H5 p2 (.tup (vs.take r)) = Hs at hW2 hWs Ds kxs hws hwvs ⊢
          clear hp5 hp4 hes4 hW4 hW5
          refine ⟨_, rfl, sz1000 (by show 1 ≤ 1000; decide), fun q1 hq1 => ?_⟩
          have y1 := Ex.new (o := .tup [V.str "kept"]) hq1
          have g1 : (upd Hs q1 (.tup [V.str "kept"])) q1 = some (.tup [V.str "kept"]) := upd_same
          generalize upd Hs q1 (.tup [V.str "kept"]) = Ht at y1 g1 ⊢
          refine ⟨sz1000 (by show 1 ≤ 1000; decide), fun q2 hq2 => ?_⟩
          have y2 := y1.trans (Ex.new (o := .tup [V.ref q1]) hq2)
          have g12 := Ex.new (o := .tup [V.ref q1]) hq2 _ _ g1
          have g2 : (upd Ht q2 (.tup [V.ref q1])) q2 = some (.tup [V.ref q1]) := upd_same
          generalize upd Ht q2 (.tup [V.ref q1]) = Hu at y2 g12 g2 ⊢
          obtain ⟨vs, hp, hes, hl⟩ := hWs.kt (Kt.of_ex y2)
          have vsl := hes.len
          have hk1 : WorkAt K Hu q2 [.kept] := ⟨_, SqT.of g2, ⟨rfl, fun i v e hv he => by
            match i with
            | 0 => cases hv; cases he; exact ⟨q1, rfl, SqT.of g12⟩
            | i + 1 => simp at hv⟩, by decide⟩
          have Du := Ds.ex y2
          have kxu := kxs.trans (.of_ex y2)
          have hwu := y2 _ _ hws
          have hwvu : ∀ v ∈ wvs, ∃ p es, v = .ref p ∧ WorkAt K Hu p es := fun v hv => let ⟨a, b, c, z⟩ := hwvs v hv; ⟨a, b, c, z.kt (Kt.of_ex y2)⟩
          have hW2u := hW2.kt (Kt.of_ex y2)
          have hWu : WorkAt K Hu p es := ⟨vs, hp, hes, hl⟩
          refine ⟨p, q2, vs, _, rfl, rfl, hp, SqT.of g2, sz1000 (by show _ + 1 ≤ 1000; omega), fun hn => ?_, fun _ hn => ?_, fun hn _ p3 hp3 => ?_⟩
          · have hW3 := hk1
            have Dz := Du
            have kxz := kxu
            have hwlz := hwu
            have hwvz := hwvu
            have hWz := hWu
            have hW2 := hW2u
            generalize Hu = Hz at Dz kxz hwlz hwvz hWz hW2 hW3 ⊢
            generalize q2 = p3 at hW3 ⊢
            refine ⟨sz1000 (by show 3 ≤ 1000; decide), fun l1 hl1 => ?_⟩
            have z1 := Ex.new (o := .lst [V.ref p, .ref p2, .ref p3]) hl1
            have h1 : (upd Hz l1 (.lst [V.ref p, .ref p2, .ref p3])) l1 = some (.lst [V.ref p, .ref p2, .ref p3]) := upd_same
            have hwz : Hz wl = some (.lst wvs) := hwlz
            have hwz1 := z1 _ _ hwz
            have wz : ∀ v ∈ wvs, ∃ p es, v = .ref p ∧ WorkAt K Hz p es := hwvz
            have kz := kxz
            generalize upd Hz l1 (.lst [V.ref p, .ref p2, .ref p3]) = Hy at z1 h1 hwz1 ⊢
            refine ⟨wl, l1, _, _, rfl, rfl, hwz1, h1, sz1000 (by show _ + 3 ≤ 1000; omega), fun l2 hl2 => ?_⟩
            have l20 : H7 l2 = none := ENV.di.free (Dz.ex z1) (kz.trans (.of_ex z1)) hl2
            refine hR _ _ ⟨l2, rfl, kz.trans (.of_ex (z1.trans (Ex.new hl2))), Dz.ex (z1.trans (Ex.new hl2)), WL.cat wv1 wvn wz z1 hl2 l20 (fun v hv => ?_), hWz.kt (Kt.of_ex (z1.trans (Ex.new hl2)))⟩
            rcases List.mem_cons.mp hv with h | h
            · exact ⟨p, _, h, hWz.kt (Kt.of_ex z1)⟩
            rcases List.mem_cons.mp h with h | h
            · exact ⟨p2, _, h, hW2.kt (Kt.of_ex z1)⟩
            · exact ⟨p3, _, List.mem_singleton.mp h, hW3.kt (Kt.of_ex z1)⟩
          · cases hn
          · have y3 := Ex.new (o := .tup (vs ++ [V.ref q1])) hp3
            have g3 : (upd Hu p3 (.tup (vs ++ [V.ref q1]))) p3 = some (.tup (vs ++ [V.ref q1])) := upd_same
            have Dz := Du.ex y3
            have kxz := kxu.trans (.of_ex y3)
            have hwlz := y3 _ _ hwu
            have hwvz : ∀ v ∈ wvs, ∃ p es, v = .ref p ∧ WorkAt K (upd Hu p3 (.tup (vs ++ [V.ref q1]))) p es := fun v hv => let ⟨a, b, c, z⟩ := hwvu v hv; ⟨a, b, c, z.kt (Kt.of_ex y3)⟩
            have hWz := hWu.kt (Kt.of_ex y3)
            have hW2 := hW2u.kt (Kt.of_ex y3)
            have hW3 : WorkAt K (upd Hu p3 (.tup (vs ++ [V.ref q1]))) p3 (es ++ [.kept]) := ⟨_, SqT.of g3, (hes.kt (Kt.of_ex y3)).snoc (e := .kept) ⟨q1, rfl, SqT.of (y3 _ _ g12)⟩, by rw [List.length_append]; show _ + 1 ≤ 500; omega⟩
            generalize upd Hu p3 (.tup (vs ++ [V.ref q1])) = Hz at Dz kxz hwlz hwvz hWz hW2 hW3 ⊢
            refine ⟨sz1000 (by show 3 ≤ 1000; decide), fun l1 hl1 => ?_⟩
            have z1 := Ex.new (o := .lst [V.ref p, .ref p2, .ref p3]) hl1
            have h1 : (upd Hz l1 (.lst [V.ref p, .ref p2, .ref p3])) l1 = some (.lst [V.ref p, .ref p2, .ref p3]) := upd_same
            have hwz : Hz wl = some (.lst wvs) := hwlz
            have hwz1 := z1 _ _ hwz
            have wz : ∀ v ∈ wvs, ∃ p es, v = .ref p ∧ WorkAt K Hz p es := hwvz
            have kz := kxz
            generalize upd Hz l1 (.lst [V.ref p, .ref p2, .ref p3]) = Hy at z1 h1 hwz1 ⊢
            refine ⟨wl, l1, _, _, rfl, rfl, hwz1, h1, sz1000 (by show _ + 3 ≤ 1000; omega), fun l2 hl2 => ?_⟩
            have l20 : H7 l2 = none := ENV.di.free (Dz.ex z1) (kz.trans (.of_ex z1)) hl2
            refine hR _ _ ⟨l2, rfl, kz.trans (.of_ex (z1.trans (Ex.new hl2))), Dz.ex (z1.trans (Ex.new hl2)), WL.cat wv1 wvn wz z1 hl2 l20 (fun v hv => ?_), hWz.kt (Kt.of_ex (z1.trans (Ex.new hl2)))⟩
            rcases List.mem_cons.mp hv with h | h
            · exact ⟨p, _, h, hWz.kt (Kt.of_ex z1)⟩
            rcases List.mem_cons.mp h with h | h
            · exact ⟨p2, _, h, hW2.kt (Kt.of_ex z1)⟩
            · exact ⟨p3, _, List.mem_singleton.mp h, hW3.kt (Kt.of_ex z1)⟩
      obtain ⟨wl, rfl, kx1, D1, WL1, hW1⟩ := hI
      refine ⟨3, rfl, by decide, by decide, ?_⟩
      have wl0 := WL1.l0
      have wld := ENV.di.ne wl0
      refine for_it (w := walk_range) (fun j σ H' => ∃ x12, σ = [some (.ref d), some (.ref pd), some (.ref b), some (.ref tl), some (.ref sl), x5, some (.ref vl), some (.int (0 + (i : Nat))), some (.ref wl), some (.int (n : Int)), some (.ref p), some (.str s'), x12] ∧ Kx d H7 H' ∧ Dice H' d ∧ WL K H7 H' wl (1 + 9 * i + 3 + 2 * j) ∧ WorkAt K H' p es)
        ⟨_, rfl, kx1, D1, WL1, hW1⟩ (fun _ _ _ _ _ => trivial) (fun j x σ Hc Hd hj p0 y => ?_) (fun σ H2 p0 => ?_)
      · obtain ⟨rfl, rfl⟩ := y
        obtain ⟨x12, rfl, kx, Dj, hWL, hW⟩ := p0
        have hj : j < 3 := hj
        show tSeq (tDrop _) _ _ _ _
        refine seq_use (fun σ' H' => ∃ x12, σ' = [some (.ref d), some (.ref pd), some (.ref b), some (.ref tl), some (.ref sl), x5, some (.ref vl), some (.int (0 + (i : Nat))), some (.ref wl), some (.int (n : Int)), some (.ref p), some (.str s'), x12] ∧ Kx d H7 H' ∧ Dice H' d ∧ WL K H7 H' wl (1 + 9 * i + 3 + 2 * j + 1) ∧ WorkAt K H' p es) (fun R hR => ?_) (fun σ1 H1 hI => ?_)
        · obtain ⟨_, wvs, hwl, wv1, wvn, hwv⟩ := hWL
          obtain ⟨vs, hp, hes, _⟩ := id hW
          refine ⟨_, rfl, .inl ⟨rfl, _, SqL.of hwl⟩, _, rfl, _, rfl, _, rfl, _, rfl, d, _, rfl, Dj, by decide, by decide, fun H5 r kx5 D5 hr5 => ?_⟩
          have kr5 := Dj.kr kx5
          have hp5 := kr5.tup hp
          -- the rest, from the piece on
          have rest : ∀ (p2 : Addr) (es2 : List En) (H6 : Hp), Ex H5 H6 → WorkAt K H6 p2 es2 → es2.length ≤ 120 → (∀ e ∈ es2, shortE e) →
              sp_spoilt K [.ref d, .ref pd, .ref p2] H6 (fun y H8 => rAppend (.ref wl) [y] H8 fun _ H9 => R [some (.ref d), some (.ref pd), some (.ref b), some (.ref tl), some (.ref sl), x5, some (.ref vl), some (.int (0 + (i : Nat))), some (.ref wl), some (.int (n : Int)), some (.ref p), some (.str s'), some (.int (0 + (j : Nat)))] H9) E0 := fun p2 es2 H6 e6 hW2 l2 sh2 => by
            have D6 := D5.ex e6
            have kx06 := (kx.trans kx5).trans (.of_ex e6)
            have E6 := ENV.go kx06 D6
            refine ⟨d, pd, p2, B, es2, rfl, D6, ⟨pk, .inl E6.hpd, E6.P⟩, ok, hW2, l2, sh2, fun H8 q2 es3 kx8 D8 hW8 => ?_⟩
            have kxj8 := (kx5.trans (.of_ex e6)).trans kx8
            have hwl8 := kxj8 _ _ wld hwl
            have kt8 := (Dj.kr kxj8).kt (K := K)
            refine ⟨wl, _, _, rfl, rfl, hwl8, szlt (by omega), hR _ _ ⟨_, rfl, (kx.trans kxj8).mut wl0, D8.upd wld, WL.app wl0 hwl8 wvn (fun v hv => let ⟨a, b, c, z⟩ := hwv v hv; ⟨a, b, c, z.kt kt8⟩) ⟨q2, es3, rfl, hW8⟩, hW.kt (kt8.trans (Kr.lst hwl8).kt)⟩⟩
          refine ⟨_, rfl, p, vs, rfl, hp5, fun _ => ?_, fun _ p2 hp2 => ?_⟩
          · exact rest p es _ (Ex.refl _) (hW.kt kr5.kt) l120 hsh
          · rw [cut_take]
            have y6 := Ex.new (o := .tup (vs.take r)) hp2
            exact rest p2 (es.take r) _ y6 ⟨_, SqT.of upd_same, ((hes.kt kr5.kt).kt (Kt.of_ex y6)).take r, by rw [List.length_take]; omega⟩ (by rw [List.length_take]; omega) (fun e he => hsh e (List.mem_of_mem_take he))
        · clear hWL hW
          obtain ⟨x12, rfl, kx, Dj, hWL, hW⟩ := hI
          obtain ⟨_, wvs, hwl, wv1, wvn, hwv⟩ := hWL
          have E6 := ENV.go kx Dj
          refine ⟨_, rfl, .inl ⟨rfl, _, SqL.of hwl⟩, _, rfl, _, rfl, _, rfl, d, pd, p, B, es, rfl, Dj, ⟨pk, .inl E6.hpd, E6.P⟩, ok, hW, l120, hsh, fun H8 q2 es3 kx8 D8 hW8 => ?_⟩
          have hwl8 := kx8 _ _ wld hwl
          have kt8 := (Dj.kr kx8).kt (K := K)
          refine ⟨wl, _, _, rfl, rfl, hwl8, szlt (by omega), ?_⟩
          exact ⟨_, rfl, (kx.trans kx8).mut wl0, D8.upd wld, WL.app wl0 hwl8 wvn (fun v hv => let ⟨a, b, c, z⟩ := hwv v hv; ⟨a, b, c, z.kt kt8⟩) ⟨q2, es3, rfl, hW8⟩, hW.kt (kt8.trans (Kr.lst hwl8).kt)⟩
      · obtain ⟨x12, rfl, kx, Dj, hWL, hW⟩ := p0
        exact ⟨wl, _, _, _, _, _, _, rfl, kx, Dj, hWL⟩
    obtain ⟨wl, x5, x7, x9, x10, x11, x12, rfl, kxL, DL, hWL⟩ := p
    have EL := ENV.go kxL DL
    have wld := ENV.di.ne hWL.l0
    obtain ⟨_, wvs, hwl, wv1, wvn, hwv⟩ := hWL
    have wvn : wvs.length ≤ 19 := wvn
    refine ⟨_, rfl, wl, rfl, ⟨_, SqL.of hwl⟩, ?_⟩
    refine for_it (w := walk_list (xs := wvs)) (fun i σ H' => ∃ x5 x7 x9 x10 x11 x12, σ = [some (.ref d), some (.ref pd), some (.ref b), some (.ref tl), some (.ref sl), x5, some (.ref vl), x7, some (.ref wl), x9, x10, x11, x12] ∧ Ex HL H')
      ⟨_, _, _, _, _, _, rfl, Ex.refl _⟩ (fun i σ H' _ p => ?_) (fun i x σ Ha Hb hi p y => ?_) (fun σ HM p => ?_)
    · obtain ⟨_, _, _, _, _, _, _, e⟩ := p
      exact SqL.of (e _ _ hwl)
    · obtain ⟨rfl, hx⟩ := y
      obtain ⟨x5, x7, x9, x10, x11, x12, rfl, e⟩ := p
      obtain ⟨p, es, rfl, hW⟩ := hwv x (List.mem_of_getElem? hx)
      refine ⟨2, rfl, by decide, by decide, ?_⟩
      refine for_it (w := walk_range) (fun j σ H' => ∃ x7, σ = [some (.ref d), some (.ref pd), some (.ref b), some (.ref tl), some (.ref sl), x5, some (.ref vl), x7, some (.ref wl), x9, some (.ref p), x11, x12] ∧ Ex HL H')
        ⟨_, rfl, e⟩ (fun _ _ _ _ _ => trivial) (fun j x σ Hc Hd hj p0 y => ?_) (fun σ H2 p0 => ?_)
      · obtain ⟨rfl, rfl⟩ := y
        obtain ⟨x7, rfl, e⟩ := p0
        have hj : j < 2 := hj
        have Ej := EL.go (.of_ex e) (DL.ex e)
        refine ⟨_, rfl, _, rfl, vl, _, _, _, rfl, rfl, SqL.of Ej.hvl, at2 (f := fun i => V.ref (svA i)) hj, _, rfl, _, rfl, _, rfl, tl, _, _, _, rfl, rfl, SqL.of Ej.htl, at2 (f := fun i => V.ref (tA i)) hj, _, rfl, _, rfl, sl, _, _, _, rfl, rfl, SqL.of Ej.hsl, at2 (f := fun i => V.str (stA i)) hj, _, rfl,
          svA j, pd, tA j, p, B, pk, tkA j, TTA j, stA j, es, rfl, Ej.srv j hj, Ej.hpd, Ej.P, ok, .inl (Ej.tab j hj).1, (Ej.tab j hj).2, (Ej.okT j hj).1, (Ej.okT j hj).2, hW.kt (Kt.of_ex e), fun H' e' => ⟨_, rfl, ?_⟩⟩
        exact ⟨_, rfl, e.trans e'⟩
      · obtain ⟨x7, rfl, e⟩ := p0
        exact ⟨_, _, _, _, _, _, rfl, e⟩
    · obtain ⟨x5, x7, x9, x10, x11, x12, rfl, e⟩ := p
      have DM := DL.ex e
      refine ⟨_, rfl, d, _, rfl, DM, by decide, by decide, fun H2 r kx2 D2 hr2 => ?_⟩
      have kxL2 := (Kx.of_ex e).trans kx2
      have E2 := EL.go kxL2 D2
      have hr : r < 2 := by omega
      have hwl2 := kxL2 _ _ wld hwl
      refine ⟨_, rfl, _, rfl, vl, _, _, _, rfl, rfl, SqL.of E2.hvl, at2' (f := fun i => V.ref (svA i)) hr, _, rfl, _, rfl, _, rfl, tl, _, _, _, rfl, rfl, SqL.of E2.htl, at2' (f := fun i => V.ref (tA i)) hr, _, rfl, _, rfl, sl, _, _, _, rfl, rfl, SqL.of E2.hsl, at2' (f := fun i => V.str (stA i)) hr, _, rfl, _, rfl,
        d, wl, wvs, rfl, D2, hwl2, wld, by omega, by omega, fun H3 x kx3 D3 hx => ?_⟩
      obtain ⟨p, es, rfl, hW⟩ := hwv x hx
      have kxL3 := kxL2.trans kx3
      have E3 := EL.go kxL3 D3
      exact ⟨svA r, pd, tA r, p, B, pk, tkA r, TTA r, stA r, es, rfl, E3.srv r hr, E3.hpd, E3.P, ok, .inl (E3.tab r hr).1, (E3.tab r hr).2, (E3.okT r hr).1, (E3.okT r hr).2, hW.kt (DL.kr kxL3).kt, fun H' e' => k _ ((kx07.trans (kxL.trans kxL3)).trans (.of_ex e'))⟩
end Sk
namespace Sk
open PySem L2 KwX Evl RZ
theorem sql_kx {K : PySem.W.Frag} {H H1 H2 : Hp} {a d : Addr} {xs : List V} (h : SqL K H a xs) (hd : H d = none) (e : Ex H H1) (k : Kx d H1 H2) : SqL K H2 a xs := by
  rcases h with (h | ⟨o, h⟩) | h
  · exact .inl (.inl (k _ _ (ne_of_none h hd) (e _ _ h)))
  · exact .inl (.inr ⟨o, k _ _ (ne_of_none h hd) (e _ _ h)⟩)
  · exact .inr h
abbrev N_law : List Str := ["_law_script", "_law_k"]
theorem sc_law : FnScope N_law ["_law_script"] (defScope (topS 64)) := ⟨rfl, rfl, rfl, by decide +kernel, rfl, by decide +kernel, by decide +kernel⟩
theorem ok_law {P : Program} {w : World} {K : PySem.W.Frag} {mg : Str → Option Value} {base : Heap} {CB CS CI : Addr} (T : Txt K mg CB CS CI) {f : Addr} {fd : FuncData} (F : Fun K "law" "law" (topS 64) f fd) : FnOk P w K mg base CX0 12 f fd ["_law_script"] (sp_law K) := by
  refine F.ok sc_law (fun vs H Q E h => ?_) (fun cdv A outer s H vs Q E hr h => ?_)
  · obtain ⟨a, ns, rfl, _⟩ := h
    rfl
  · obtain ⟨a, ns, rfl, hS, h63, k⟩ := h
    have hu := hu_of hr
    refine ⟨_, (pss_cons (ps_for PassesOwn.never rfl (pi_range1 rfl T.zrange (pa_cons (pe_callB (call_max2 rfl) (by rfl) T.zmax bt_max (pa_cons pe_int (pa_cons (pe_callB (call_min2 rfl) (by rfl) T.zmin bt_min (pa_cons pe_int (pa_cons (pe_callB call_len_seq (by rfl) T.zlen bt_len (pa_cons (pv 0) pa_nil)) pa_nil))) pa_nil))) pa_nil)) (pg_name (i := 1) sc_law.nd rfl (Or.inl rfl))
      (pss_one (ps_if (pt_not (pt_val (pc0 (ok_right T) hr (pa_cons (pc0 (ok_dice T) hr (pa_cons (pv 0) (pa_cons (pv 1) pa_nil))) pa_nil)))) (pss_one (ps_ret pe_bl)) pss_nil)))
      (pss_one (ps_ret pe_bl))), ?_⟩
    refine ⟨_, rfl, a, _, rfl, .inl hS, _, _, rfl, _, _, rfl, ?_⟩
    rw [List.length_map]
    obtain ⟨j, ej, hj⟩ : ∃ j : Nat, (if (if (ns.length : Int) < 6 then (ns.length : Int) else 6) > 1 then (if (ns.length : Int) < 6 then (ns.length : Int) else 6) else 1) = (j : Int) ∧ j ≤ 6 := by
      by_cases h : (ns.length : Int) < 6
      · rw [if_pos h]
        by_cases h2 : (ns.length : Int) > 1
        · exact ⟨ns.length, by rw [if_pos h2], by omega⟩
        · exact ⟨1, by rw [if_neg h2]; rfl, by decide⟩
      · rw [if_neg h]
        exact ⟨6, rfl, by decide⟩
    refine ⟨_, rfl, ?_⟩
    rw [ej]
    refine ⟨by omega, by omega, ?_⟩
    refine for_it (w := walk_range) (fun i σ H' => ∃ x1, σ = [some (.ref a), x1] ∧ SqL K H' a (ns.map V.int)) ⟨none, rfl, hS⟩ (fun _ _ _ _ _ => trivial) (fun i x σ Ha Hb hi p y => ?_) (fun σ H' p => ?_)
    · obtain ⟨rfl, rfl⟩ := y
      obtain ⟨x1, rfl, hSi⟩ := p
      have hi : i < j := by simpa using hi
      refine ⟨_, rfl, _, rfl, a, ns, i, by simp, hSi, by omega, fun H2 d e2 hd D2 => ?_⟩
      refine ⟨d, rfl, D2, fun H3 kx => ⟨_, rfl, ?_⟩⟩
      exact ⟨_, rfl, sql_kx hSi hd e2 kx⟩
    · exact k _
end Sk
namespace Sk
open PySem L2 KwX Evl RZ
/-- an error of the class at S is what «except S» names -/
theorem exm_self {K : PySem.W.Frag} {S : Addr} (h1 : PySem.W.subIn K (.ref S) (.type "BaseException") = some true) (h2 : PySem.W.isClsIn K S = true) (h3 : PySem.W.typeIn K (.ref S) = some (.type "type")) (h4 : PySem.W.subIn K (.ref S) (.ref S) = some true) :
    PySem.W.exmOne K (.ref S) (.ref S) = some true := by
  have e1 : (PySem.W.subIn K (.ref S) (.type "BaseException") == some true) = true := by rw [h1] <;> rfl
  have e2 : ((PySem.W.clsIn K S).isSome && PySem.W.typeIn K (.ref S) == some (.type "type")) = true := by
    have h2' : (PySem.W.clsIn K S).isSome = true := h2
    rw [h2', h3] <;> rfl
  show (if (PySem.W.subIn K (.ref S) (.type "BaseException") == some true) = true then (if ((PySem.W.clsIn K S).isSome && PySem.W.typeIn K (.ref S) == some (.type "type")) = true then PySem.W.subIn K (.ref S) (.ref S) else none) else none) = some true
  rw [if_pos e1, if_pos e2]
  exact h4
theorem kit_self {K : PySem.W.Frag} (C : Addr) : PySem.W.kitOne K (.ref C) (.ref C) = some true := by
  unfold PySem.W.kitOne
  rw [if_pos (beq_self_eq_true _)]
theorem all_mk {l : PySem.W.OpenLaw} {w : World} {K : PySem.W.Frag} {h : Heap} {mg : Str → Option Value} {fa : Addr} (X : K.In h) (G : h.Ns mainGlobals mg) (hfa : mg "law" = some (.ref fa))
    {CB CS CI : Addr}
    {tcLetters : Tok}
    {tcMaxL : Tok}
    {tcMaxC : Tok}
    {tcMaxT : Tok}
    {tcMaxA : Tok}
    {tcMaxS : Tok}
    {tcFailed : Tok}
    {tcKept : Tok}
    {acReserved : Addr} {odcReserved : Option Addr} {ncReserved : Nat} {slcReserved : Array (Option Value)} {tcReserved0 tcReserved1 tcReserved2 tcReserved3 : Tok}
    {acKeptE : Addr} {odcKeptE : Option Addr} {ncKeptE : Nat} {slcKeptE : Array (Option Value)} {tcKeptE0 : Tok}
    {f_is_name : Addr} {od_is_name an_is_name : Option Addr} {sl_is_name : Array (Option Value)} {oc_is_name kV_is_name dc_is_name pm_is_name cd_is_name ct_is_name : Value}
    {f_is_answer : Addr} {od_is_answer an_is_answer : Option Addr} {sl_is_answer : Array (Option Value)} {oc_is_answer kV_is_answer dc_is_answer pm_is_answer cd_is_answer ct_is_answer : Value}
    {f_is_integer : Addr} {od_is_integer an_is_integer : Option Addr} {sl_is_integer : Array (Option Value)} {oc_is_integer kV_is_integer dc_is_integer pm_is_integer cd_is_integer ct_is_integer : Value}
    {f_are_ascending : Addr} {od_are_ascending an_are_ascending : Option Addr} {sl_are_ascending : Array (Option Value)} {oc_are_ascending kV_are_ascending dc_are_ascending pm_are_ascending cd_are_ascending ct_are_ascending : Value}
    {f_is_pair : Addr} {od_is_pair an_is_pair : Option Addr} {sl_is_pair : Array (Option Value)} {oc_is_pair kV_is_pair dc_is_pair pm_is_pair cd_is_pair ct_is_pair : Value}
    {f_pairs_of : Addr} {od_pairs_of an_pairs_of : Option Addr} {sl_pairs_of : Array (Option Value)} {oc_pairs_of kV_pairs_of dc_pairs_of pm_pairs_of cd_pairs_of ct_pairs_of : Value}
    {f_is_command : Addr} {od_is_command an_is_command : Option Addr} {sl_is_command : Array (Option Value)} {oc_is_command kV_is_command dc_is_command pm_is_command cd_is_command ct_is_command : Value}
    {f_outcomes_in : Addr} {od_outcomes_in an_outcomes_in : Option Addr} {sl_outcomes_in : Array (Option Value)} {oc_outcomes_in kV_outcomes_in dc_outcomes_in pm_outcomes_in cd_outcomes_in ct_outcomes_in : Value}
    {f_require_book : Addr} {od_require_book an_require_book : Option Addr} {sl_require_book : Array (Option Value)} {oc_require_book kV_require_book dc_require_book pm_require_book cd_require_book ct_require_book : Value}
    {f_require_command : Addr} {od_require_command an_require_command : Option Addr} {sl_require_command : Array (Option Value)} {oc_require_command kV_require_command dc_require_command pm_require_command cd_require_command ct_require_command : Value}
    {f_is_entry_line : Addr} {od_is_entry_line an_is_entry_line : Option Addr} {sl_is_entry_line : Array (Option Value)} {oc_is_entry_line kV_is_entry_line dc_is_entry_line pm_is_entry_line cd_is_entry_line ct_is_entry_line : Value}
    {f_is_work : Addr} {od_is_work an_is_work : Option Addr} {sl_is_work : Array (Option Value)} {oc_is_work kV_is_work dc_is_work pm_is_work cd_is_work ct_is_work : Value}
    {f_is_state : Addr} {od_is_state an_is_state : Option Addr} {sl_is_state : Array (Option Value)} {oc_is_state kV_is_state dc_is_state pm_is_state cd_is_state ct_is_state : Value}
    {f_is_entry_servers : Addr} {od_is_entry_servers an_is_entry_servers : Option Addr} {sl_is_entry_servers : Array (Option Value)} {oc_is_entry_servers kV_is_entry_servers dc_is_entry_servers pm_is_entry_servers cd_is_entry_servers ct_is_entry_servers : Value}
    {f_are_entries : Addr} {od_are_entries an_are_entries : Option Addr} {sl_are_entries : Array (Option Value)} {oc_are_entries kV_are_entries dc_are_entries pm_are_entries cd_are_entries ct_are_entries : Value}
    {f_is_table : Addr} {od_is_table an_is_table : Option Addr} {sl_is_table : Array (Option Value)} {oc_is_table kV_is_table dc_is_table pm_is_table cd_is_table ct_is_table : Value}
    {f_dice : Addr} {od_dice an_dice : Option Addr} {sl_dice : Array (Option Value)} {oc_dice kV_dice dc_dice pm_dice cd_dice ct_dice : Value}
    {f_roll : Addr} {od_roll an_roll : Option Addr} {sl_roll : Array (Option Value)} {oc_roll kV_roll dc_roll pm_roll cd_roll ct_roll : Value}
    {f_one_of : Addr} {od_one_of an_one_of : Option Addr} {sl_one_of : Array (Option Value)} {oc_one_of kV_one_of dc_one_of pm_one_of cd_one_of ct_one_of : Value}
    {f_mixed : Addr} {od_mixed an_mixed : Option Addr} {sl_mixed : Array (Option Value)} {oc_mixed kV_mixed dc_mixed pm_mixed cd_mixed ct_mixed : Value}
    {f_word : Addr} {od_word an_word : Option Addr} {sl_word : Array (Option Value)} {oc_word kV_word dc_word pm_word cd_word ct_word : Value}
    {f_words : Addr} {od_words an_words : Option Addr} {sl_words : Array (Option Value)} {oc_words kV_words dc_words pm_words cd_words ct_words : Value}
    {f_reserved : Addr} {od_reserved an_reserved : Option Addr} {sl_reserved : Array (Option Value)} {oc_reserved kV_reserved dc_reserved pm_reserved cd_reserved ct_reserved : Value}
    {f_pairs : Addr} {od_pairs an_pairs : Option Addr} {sl_pairs : Array (Option Value)} {oc_pairs kV_pairs dc_pairs pm_pairs cd_pairs ct_pairs : Value}
    {f_outcomes : Addr} {od_outcomes an_outcomes : Option Addr} {sl_outcomes : Array (Option Value)} {oc_outcomes kV_outcomes dc_outcomes pm_outcomes cd_outcomes ct_outcomes : Value}
    {f_entries : Addr} {od_entries an_entries : Option Addr} {sl_entries : Array (Option Value)} {oc_entries kV_entries dc_entries pm_entries cd_entries ct_entries : Value}
    {f_table : Addr} {od_table an_table : Option Addr} {sl_table : Array (Option Value)} {oc_table kV_table dc_table pm_table cd_table ct_table : Value}
    {f_origins : Addr} {od_origins an_origins : Option Addr} {sl_origins : Array (Option Value)} {oc_origins kV_origins dc_origins pm_origins cd_origins ct_origins : Value}
    {f_works : Addr} {od_works an_works : Option Addr} {sl_works : Array (Option Value)} {oc_works kV_works dc_works pm_works cd_works ct_works : Value}
    {f_is_origin : Addr} {od_is_origin an_is_origin : Option Addr} {sl_is_origin : Array (Option Value)} {oc_is_origin kV_is_origin dc_is_origin pm_is_origin cd_is_origin ct_is_origin : Value}
    {f_is_word : Addr} {od_is_word an_is_word : Option Addr} {sl_is_word : Array (Option Value)} {oc_is_word kV_is_word dc_is_word pm_is_word cd_is_word ct_is_word : Value}
    {f_lis_work : Addr} {od_lis_work an_lis_work : Option Addr} {sl_lis_work : Array (Option Value)} {oc_lis_work kV_lis_work dc_lis_work pm_lis_work cd_lis_work ct_lis_work : Value}
    {f_behind : Addr} {od_behind an_behind : Option Addr} {sl_behind : Array (Option Value)} {oc_behind kV_behind dc_behind pm_behind cd_behind ct_behind : Value}
    {f_spoilt : Addr} {od_spoilt an_spoilt : Option Addr} {sl_spoilt : Array (Option Value)} {oc_spoilt kV_spoilt dc_spoilt pm_spoilt cd_spoilt ct_spoilt : Value}
    {f_state : Addr} {od_state an_state : Option Addr} {sl_state : Array (Option Value)} {oc_state kV_state dc_state pm_state cd_state ct_state : Value}
    {f_next : Addr} {od_next an_next : Option Addr} {sl_next : Array (Option Value)} {oc_next kV_next dc_next pm_next cd_next ct_next : Value}
    {f_asked : Addr} {od_asked an_asked : Option Addr} {sl_asked : Array (Option Value)} {oc_asked kV_asked dc_asked pm_asked cd_asked ct_asked : Value}
    {f_right : Addr} {od_right an_right : Option Addr} {sl_right : Array (Option Value)} {oc_right kV_right dc_right pm_right cd_right ct_right : Value}
    {fBI : Addr} {odBI anBI : Option Addr} {slBI : Array (Option Value)} {ocBI kVBI dcBI pmBI cdBI ctBI : Value}
    {pBO : Addr} {rBO : List Value}
    {fBO : Addr} {odBO anBO : Option Addr} {slBO : Array (Option Value)} {ocBO kVBO dcBO pmBO cdBO ctBO : Value}
    {pBC : Addr} {rBC : List Value}
    {fBC : Addr} {odBC anBC : Option Addr} {slBC : Array (Option Value)} {ocBC kVBC dcBC pmBC cdBC ctBC : Value}
    {fBU : Addr} {odBU anBU : Option Addr} {slBU : Array (Option Value)} {ocBU kVBU dcBU pmBU cdBU ctBU : Value}
    {fSI : Addr} {odSI anSI : Option Addr} {slSI : Array (Option Value)} {ocSI kVSI dcSI pmSI cdSI ctSI : Value}
    {fSC : Addr} {odSC anSC : Option Addr} {slSC : Array (Option Value)} {ocSC kVSC dcSC pmSC cdSC ctSC : Value}
    {fSO : Addr} {odSO anSO : Option Addr} {slSO : Array (Option Value)} {ocSO kVSO dcSO pmSO cdSO ctSO : Value}
    {fLAW : Addr} {odLAW anLAW : Option Addr} {slLAW : Array (Option Value)} {ocLAW kVLAW dcLAW pmLAW cdLAW ctLAW : Value}
    (gB : PySem.W.nsIn K mainGlobals "Book" = some (some (.ref CB)))
    (gS : PySem.W.nsIn K mainGlobals "Server" = some (some (.ref CS)))
    (gI : PySem.W.nsIn K mainGlobals "InvalidOperation" = some (some (.ref CI)))
    (zlen : PySem.W.nsIn K mainGlobals "len" = some none)
    (zisi : PySem.W.nsIn K mainGlobals "isinstance" = some none)
    (zall : PySem.W.nsIn K mainGlobals "all" = some none)
    (zsorted : PySem.W.nsIn K mainGlobals "sorted" = some none)
    (zabs : PySem.W.nsIn K mainGlobals "abs" = some none)
    (zmax : PySem.W.nsIn K mainGlobals "max" = some none)
    (zmin : PySem.W.nsIn K mainGlobals "min" = some none)
    (zint : PySem.W.nsIn K mainGlobals "int" = some none)
    (zstr : PySem.W.nsIn K mainGlobals "str" = some none)
    (zbool : PySem.W.nsIn K mainGlobals "bool" = some none)
    (zlist : PySem.W.nsIn K mainGlobals "list" = some none)
    (ztuple : PySem.W.nsIn K mainGlobals "tuple" = some none)
    (zdict : PySem.W.nsIn K mainGlobals "dict" = some none)
    (zzip : PySem.W.nsIn K mainGlobals "zip" = some none)
    (zrange : PySem.W.nsIn K mainGlobals "range" = some none)
    (cLetters : PySem.W.nsIn K mainGlobals "LETTERS" = some (some (.str letters tcLetters)))
    (cMaxL : PySem.W.nsIn K mainGlobals "MAX_LETTERS" = some (some (.int 8 tcMaxL)))
    (cMaxC : PySem.W.nsIn K mainGlobals "MAX_COMMANDS" = some (some (.int 6 tcMaxC)))
    (cMaxT : PySem.W.nsIn K mainGlobals "MAX_TAKES" = some (some (.int 2 tcMaxT)))
    (cMaxA : PySem.W.nsIn K mainGlobals "MAX_ANSWERS" = some (some (.int 3 tcMaxA)))
    (cMaxS : PySem.W.nsIn K mainGlobals "MAX_STATES" = some (some (.int 12 tcMaxS)))
    (cFailed : PySem.W.nsIn K mainGlobals "FAILED" = some (some (.str "failed" tcFailed)))
    (cKept : PySem.W.nsIn K mainGlobals "KEPT" = some (some (.str "kept" tcKept)))
    (cReserved : PySem.W.nsIn K mainGlobals "RESERVED" = some (some (.ref acReserved)))
    (lcReserved : K.lookup acReserved = some ⟨.type "tuple", odcReserved, .seq #[.str "failed" tcReserved0, .str "kept" tcReserved1, .str "skipped" tcReserved2, .str "undone" tcReserved3] ncReserved, slcReserved⟩)
    (cKeptE : PySem.W.nsIn K mainGlobals "KEPT_ENTRY" = some (some (.ref acKeptE)))
    (lcKeptE : K.lookup acKeptE = some ⟨.type "tuple", odcKeptE, .seq #[.str "kept" tcKeptE0] ncKeptE, slcKeptE⟩)
    (a_is_name : PySem.W.nsIn K mainGlobals "is_name" = some (some (.ref f_is_name)))
    (l_is_name : K.lookup f_is_name = some ⟨oc_is_name, od_is_name, .func (PySem.W.fnOf "is_name" "is_name" (defArgs (topS 5)) (defBody (topS 5)) (defScope (topS 5)) .none kV_is_name dc_is_name pm_is_name an_is_name cd_is_name ct_is_name), sl_is_name⟩)
    (c_is_name : PySem.W.codeIn K cd_is_name "is_name" = true)
    (k_is_name : PySem.W.keepIn K (.ref f_is_name) = true)
    (a_is_answer : PySem.W.nsIn K mainGlobals "is_answer" = some (some (.ref f_is_answer)))
    (l_is_answer : K.lookup f_is_answer = some ⟨oc_is_answer, od_is_answer, .func (PySem.W.fnOf "is_answer" "is_answer" (defArgs (topS 6)) (defBody (topS 6)) (defScope (topS 6)) .none kV_is_answer dc_is_answer pm_is_answer an_is_answer cd_is_answer ct_is_answer), sl_is_answer⟩)
    (c_is_answer : PySem.W.codeIn K cd_is_answer "is_answer" = true)
    (k_is_answer : PySem.W.keepIn K (.ref f_is_answer) = true)
    (a_is_integer : PySem.W.nsIn K mainGlobals "is_integer" = some (some (.ref f_is_integer)))
    (l_is_integer : K.lookup f_is_integer = some ⟨oc_is_integer, od_is_integer, .func (PySem.W.fnOf "is_integer" "is_integer" (defArgs (topS 7)) (defBody (topS 7)) (defScope (topS 7)) .none kV_is_integer dc_is_integer pm_is_integer an_is_integer cd_is_integer ct_is_integer), sl_is_integer⟩)
    (c_is_integer : PySem.W.codeIn K cd_is_integer "is_integer" = true)
    (k_is_integer : PySem.W.keepIn K (.ref f_is_integer) = true)
    (a_are_ascending : PySem.W.nsIn K mainGlobals "are_ascending" = some (some (.ref f_are_ascending)))
    (l_are_ascending : K.lookup f_are_ascending = some ⟨oc_are_ascending, od_are_ascending, .func (PySem.W.fnOf "are_ascending" "are_ascending" (defArgs (topS 8)) (defBody (topS 8)) (defScope (topS 8)) .none kV_are_ascending dc_are_ascending pm_are_ascending an_are_ascending cd_are_ascending ct_are_ascending), sl_are_ascending⟩)
    (c_are_ascending : PySem.W.codeIn K cd_are_ascending "are_ascending" = true)
    (k_are_ascending : PySem.W.keepIn K (.ref f_are_ascending) = true)
    (a_is_pair : PySem.W.nsIn K mainGlobals "is_pair" = some (some (.ref f_is_pair)))
    (l_is_pair : K.lookup f_is_pair = some ⟨oc_is_pair, od_is_pair, .func (PySem.W.fnOf "is_pair" "is_pair" (defArgs (topS 20)) (defBody (topS 20)) (defScope (topS 20)) .none kV_is_pair dc_is_pair pm_is_pair an_is_pair cd_is_pair ct_is_pair), sl_is_pair⟩)
    (c_is_pair : PySem.W.codeIn K cd_is_pair "is_pair" = true)
    (k_is_pair : PySem.W.keepIn K (.ref f_is_pair) = true)
    (a_pairs_of : PySem.W.nsIn K mainGlobals "pairs_of" = some (some (.ref f_pairs_of)))
    (l_pairs_of : K.lookup f_pairs_of = some ⟨oc_pairs_of, od_pairs_of, .func (PySem.W.fnOf "pairs_of" "pairs_of" (defArgs (topS 21)) (defBody (topS 21)) (defScope (topS 21)) .none kV_pairs_of dc_pairs_of pm_pairs_of an_pairs_of cd_pairs_of ct_pairs_of), sl_pairs_of⟩)
    (c_pairs_of : PySem.W.codeIn K cd_pairs_of "pairs_of" = true)
    (k_pairs_of : PySem.W.keepIn K (.ref f_pairs_of) = true)
    (a_is_command : PySem.W.nsIn K mainGlobals "is_command" = some (some (.ref f_is_command)))
    (l_is_command : K.lookup f_is_command = some ⟨oc_is_command, od_is_command, .func (PySem.W.fnOf "is_command" "is_command" (defArgs (topS 23)) (defBody (topS 23)) (defScope (topS 23)) .none kV_is_command dc_is_command pm_is_command an_is_command cd_is_command ct_is_command), sl_is_command⟩)
    (c_is_command : PySem.W.codeIn K cd_is_command "is_command" = true)
    (k_is_command : PySem.W.keepIn K (.ref f_is_command) = true)
    (a_outcomes_in : PySem.W.nsIn K mainGlobals "outcomes_in" = some (some (.ref f_outcomes_in)))
    (l_outcomes_in : K.lookup f_outcomes_in = some ⟨oc_outcomes_in, od_outcomes_in, .func (PySem.W.fnOf "outcomes_in" "outcomes_in" (defArgs (topS 24)) (defBody (topS 24)) (defScope (topS 24)) .none kV_outcomes_in dc_outcomes_in pm_outcomes_in an_outcomes_in cd_outcomes_in ct_outcomes_in), sl_outcomes_in⟩)
    (c_outcomes_in : PySem.W.codeIn K cd_outcomes_in "outcomes_in" = true)
    (k_outcomes_in : PySem.W.keepIn K (.ref f_outcomes_in) = true)
    (a_require_book : PySem.W.nsIn K mainGlobals "require_book" = some (some (.ref f_require_book)))
    (l_require_book : K.lookup f_require_book = some ⟨oc_require_book, od_require_book, .func (PySem.W.fnOf "require_book" "require_book" (defArgs (topS 25)) (defBody (topS 25)) (defScope (topS 25)) .none kV_require_book dc_require_book pm_require_book an_require_book cd_require_book ct_require_book), sl_require_book⟩)
    (c_require_book : PySem.W.codeIn K cd_require_book "require_book" = true)
    (k_require_book : PySem.W.keepIn K (.ref f_require_book) = true)
    (a_require_command : PySem.W.nsIn K mainGlobals "require_command" = some (some (.ref f_require_command)))
    (l_require_command : K.lookup f_require_command = some ⟨oc_require_command, od_require_command, .func (PySem.W.fnOf "require_command" "require_command" (defArgs (topS 26)) (defBody (topS 26)) (defScope (topS 26)) .none kV_require_command dc_require_command pm_require_command an_require_command cd_require_command ct_require_command), sl_require_command⟩)
    (c_require_command : PySem.W.codeIn K cd_require_command "require_command" = true)
    (k_require_command : PySem.W.keepIn K (.ref f_require_command) = true)
    (a_is_entry_line : PySem.W.nsIn K mainGlobals "is_entry_line" = some (some (.ref f_is_entry_line)))
    (l_is_entry_line : K.lookup f_is_entry_line = some ⟨oc_is_entry_line, od_is_entry_line, .func (PySem.W.fnOf "is_entry" "is_entry" (defArgs (topS 29)) (defBody (topS 29)) (defScope (topS 29)) .none kV_is_entry_line dc_is_entry_line pm_is_entry_line an_is_entry_line cd_is_entry_line ct_is_entry_line), sl_is_entry_line⟩)
    (c_is_entry_line : PySem.W.codeIn K cd_is_entry_line "is_entry" = true)
    (k_is_entry_line : PySem.W.keepIn K (.ref f_is_entry_line) = true)
    (a_is_work : PySem.W.nsIn K mainGlobals "is_work" = some (some (.ref f_is_work)))
    (l_is_work : K.lookup f_is_work = some ⟨oc_is_work, od_is_work, .func (PySem.W.fnOf "is_work" "is_work" (defArgs (topS 31)) (defBody (topS 31)) (defScope (topS 31)) .none kV_is_work dc_is_work pm_is_work an_is_work cd_is_work ct_is_work), sl_is_work⟩)
    (c_is_work : PySem.W.codeIn K cd_is_work "is_work" = true)
    (k_is_work : PySem.W.keepIn K (.ref f_is_work) = true)
    (a_is_state : PySem.W.nsIn K mainGlobals "is_state" = some (some (.ref f_is_state)))
    (l_is_state : K.lookup f_is_state = some ⟨oc_is_state, od_is_state, .func (PySem.W.fnOf "is_state" "is_state" (defArgs (topS 35)) (defBody (topS 35)) (defScope (topS 35)) .none kV_is_state dc_is_state pm_is_state an_is_state cd_is_state ct_is_state), sl_is_state⟩)
    (c_is_state : PySem.W.codeIn K cd_is_state "is_state" = true)
    (k_is_state : PySem.W.keepIn K (.ref f_is_state) = true)
    (a_is_entry_servers : PySem.W.nsIn K mainGlobals "is_entry_servers" = some (some (.ref f_is_entry_servers)))
    (l_is_entry_servers : K.lookup f_is_entry_servers = some ⟨oc_is_entry_servers, od_is_entry_servers, .func (PySem.W.fnOf "is_entry" "is_entry" (defArgs (topS 36)) (defBody (topS 36)) (defScope (topS 36)) .none kV_is_entry_servers dc_is_entry_servers pm_is_entry_servers an_is_entry_servers cd_is_entry_servers ct_is_entry_servers), sl_is_entry_servers⟩)
    (c_is_entry_servers : PySem.W.codeIn K cd_is_entry_servers "is_entry" = true)
    (k_is_entry_servers : PySem.W.keepIn K (.ref f_is_entry_servers) = true)
    (a_are_entries : PySem.W.nsIn K mainGlobals "are_entries" = some (some (.ref f_are_entries)))
    (l_are_entries : K.lookup f_are_entries = some ⟨oc_are_entries, od_are_entries, .func (PySem.W.fnOf "are_entries" "are_entries" (defArgs (topS 38)) (defBody (topS 38)) (defScope (topS 38)) .none kV_are_entries dc_are_entries pm_are_entries an_are_entries cd_are_entries ct_are_entries), sl_are_entries⟩)
    (c_are_entries : PySem.W.codeIn K cd_are_entries "are_entries" = true)
    (k_are_entries : PySem.W.keepIn K (.ref f_are_entries) = true)
    (a_is_table : PySem.W.nsIn K mainGlobals "is_table" = some (some (.ref f_is_table)))
    (l_is_table : K.lookup f_is_table = some ⟨oc_is_table, od_is_table, .func (PySem.W.fnOf "is_table" "is_table" (defArgs (topS 39)) (defBody (topS 39)) (defScope (topS 39)) .none kV_is_table dc_is_table pm_is_table an_is_table cd_is_table ct_is_table), sl_is_table⟩)
    (c_is_table : PySem.W.codeIn K cd_is_table "is_table" = true)
    (k_is_table : PySem.W.keepIn K (.ref f_is_table) = true)
    (a_dice : PySem.W.nsIn K mainGlobals "_law_dice" = some (some (.ref f_dice)))
    (l_dice : K.lookup f_dice = some ⟨oc_dice, od_dice, .func (PySem.W.fnOf "_law_dice" "_law_dice" (defArgs (topS 42)) (defBody (topS 42)) (defScope (topS 42)) .none kV_dice dc_dice pm_dice an_dice cd_dice ct_dice), sl_dice⟩)
    (c_dice : PySem.W.codeIn K cd_dice "_law_dice" = true)
    (k_dice : PySem.W.keepIn K (.ref f_dice) = true)
    (a_roll : PySem.W.nsIn K mainGlobals "_law_roll" = some (some (.ref f_roll)))
    (l_roll : K.lookup f_roll = some ⟨oc_roll, od_roll, .func (PySem.W.fnOf "_law_roll" "_law_roll" (defArgs (topS 43)) (defBody (topS 43)) (defScope (topS 43)) .none kV_roll dc_roll pm_roll an_roll cd_roll ct_roll), sl_roll⟩)
    (c_roll : PySem.W.codeIn K cd_roll "_law_roll" = true)
    (k_roll : PySem.W.keepIn K (.ref f_roll) = true)
    (a_one_of : PySem.W.nsIn K mainGlobals "_law_one_of" = some (some (.ref f_one_of)))
    (l_one_of : K.lookup f_one_of = some ⟨oc_one_of, od_one_of, .func (PySem.W.fnOf "_law_one_of" "_law_one_of" (defArgs (topS 44)) (defBody (topS 44)) (defScope (topS 44)) .none kV_one_of dc_one_of pm_one_of an_one_of cd_one_of ct_one_of), sl_one_of⟩)
    (c_one_of : PySem.W.codeIn K cd_one_of "_law_one_of" = true)
    (k_one_of : PySem.W.keepIn K (.ref f_one_of) = true)
    (a_mixed : PySem.W.nsIn K mainGlobals "_law_mixed" = some (some (.ref f_mixed)))
    (l_mixed : K.lookup f_mixed = some ⟨oc_mixed, od_mixed, .func (PySem.W.fnOf "_law_mixed" "_law_mixed" (defArgs (topS 45)) (defBody (topS 45)) (defScope (topS 45)) .none kV_mixed dc_mixed pm_mixed an_mixed cd_mixed ct_mixed), sl_mixed⟩)
    (c_mixed : PySem.W.codeIn K cd_mixed "_law_mixed" = true)
    (k_mixed : PySem.W.keepIn K (.ref f_mixed) = true)
    (a_word : PySem.W.nsIn K mainGlobals "_law_word" = some (some (.ref f_word)))
    (l_word : K.lookup f_word = some ⟨oc_word, od_word, .func (PySem.W.fnOf "_law_word" "_law_word" (defArgs (topS 46)) (defBody (topS 46)) (defScope (topS 46)) .none kV_word dc_word pm_word an_word cd_word ct_word), sl_word⟩)
    (c_word : PySem.W.codeIn K cd_word "_law_word" = true)
    (k_word : PySem.W.keepIn K (.ref f_word) = true)
    (a_words : PySem.W.nsIn K mainGlobals "_law_words" = some (some (.ref f_words)))
    (l_words : K.lookup f_words = some ⟨oc_words, od_words, .func (PySem.W.fnOf "_law_words" "_law_words" (defArgs (topS 47)) (defBody (topS 47)) (defScope (topS 47)) .none kV_words dc_words pm_words an_words cd_words ct_words), sl_words⟩)
    (c_words : PySem.W.codeIn K cd_words "_law_words" = true)
    (k_words : PySem.W.keepIn K (.ref f_words) = true)
    (a_reserved : PySem.W.nsIn K mainGlobals "_law_reserved" = some (some (.ref f_reserved)))
    (l_reserved : K.lookup f_reserved = some ⟨oc_reserved, od_reserved, .func (PySem.W.fnOf "_law_reserved" "_law_reserved" (defArgs (topS 48)) (defBody (topS 48)) (defScope (topS 48)) .none kV_reserved dc_reserved pm_reserved an_reserved cd_reserved ct_reserved), sl_reserved⟩)
    (c_reserved : PySem.W.codeIn K cd_reserved "_law_reserved" = true)
    (k_reserved : PySem.W.keepIn K (.ref f_reserved) = true)
    (a_pairs : PySem.W.nsIn K mainGlobals "_law_pairs" = some (some (.ref f_pairs)))
    (l_pairs : K.lookup f_pairs = some ⟨oc_pairs, od_pairs, .func (PySem.W.fnOf "_law_pairs" "_law_pairs" (defArgs (topS 49)) (defBody (topS 49)) (defScope (topS 49)) .none kV_pairs dc_pairs pm_pairs an_pairs cd_pairs ct_pairs), sl_pairs⟩)
    (c_pairs : PySem.W.codeIn K cd_pairs "_law_pairs" = true)
    (k_pairs : PySem.W.keepIn K (.ref f_pairs) = true)
    (a_outcomes : PySem.W.nsIn K mainGlobals "_law_outcomes" = some (some (.ref f_outcomes)))
    (l_outcomes : K.lookup f_outcomes = some ⟨oc_outcomes, od_outcomes, .func (PySem.W.fnOf "_law_outcomes" "_law_outcomes" (defArgs (topS 50)) (defBody (topS 50)) (defScope (topS 50)) .none kV_outcomes dc_outcomes pm_outcomes an_outcomes cd_outcomes ct_outcomes), sl_outcomes⟩)
    (c_outcomes : PySem.W.codeIn K cd_outcomes "_law_outcomes" = true)
    (k_outcomes : PySem.W.keepIn K (.ref f_outcomes) = true)
    (a_entries : PySem.W.nsIn K mainGlobals "_law_entries" = some (some (.ref f_entries)))
    (l_entries : K.lookup f_entries = some ⟨oc_entries, od_entries, .func (PySem.W.fnOf "_law_entries" "_law_entries" (defArgs (topS 51)) (defBody (topS 51)) (defScope (topS 51)) .none kV_entries dc_entries pm_entries an_entries cd_entries ct_entries), sl_entries⟩)
    (c_entries : PySem.W.codeIn K cd_entries "_law_entries" = true)
    (k_entries : PySem.W.keepIn K (.ref f_entries) = true)
    (a_table : PySem.W.nsIn K mainGlobals "_law_table" = some (some (.ref f_table)))
    (l_table : K.lookup f_table = some ⟨oc_table, od_table, .func (PySem.W.fnOf "_law_table" "_law_table" (defArgs (topS 52)) (defBody (topS 52)) (defScope (topS 52)) .none kV_table dc_table pm_table an_table cd_table ct_table), sl_table⟩)
    (c_table : PySem.W.codeIn K cd_table "_law_table" = true)
    (k_table : PySem.W.keepIn K (.ref f_table) = true)
    (a_origins : PySem.W.nsIn K mainGlobals "_law_origins" = some (some (.ref f_origins)))
    (l_origins : K.lookup f_origins = some ⟨oc_origins, od_origins, .func (PySem.W.fnOf "_law_origins" "_law_origins" (defArgs (topS 53)) (defBody (topS 53)) (defScope (topS 53)) .none kV_origins dc_origins pm_origins an_origins cd_origins ct_origins), sl_origins⟩)
    (c_origins : PySem.W.codeIn K cd_origins "_law_origins" = true)
    (k_origins : PySem.W.keepIn K (.ref f_origins) = true)
    (a_works : PySem.W.nsIn K mainGlobals "_law_works" = some (some (.ref f_works)))
    (l_works : K.lookup f_works = some ⟨oc_works, od_works, .func (PySem.W.fnOf "_law_works" "_law_works" (defArgs (topS 54)) (defBody (topS 54)) (defScope (topS 54)) .none kV_works dc_works pm_works an_works cd_works ct_works), sl_works⟩)
    (c_works : PySem.W.codeIn K cd_works "_law_works" = true)
    (k_works : PySem.W.keepIn K (.ref f_works) = true)
    (a_is_origin : PySem.W.nsIn K mainGlobals "_law_is_origin" = some (some (.ref f_is_origin)))
    (l_is_origin : K.lookup f_is_origin = some ⟨oc_is_origin, od_is_origin, .func (PySem.W.fnOf "_law_is_origin" "_law_is_origin" (defArgs (topS 55)) (defBody (topS 55)) (defScope (topS 55)) .none kV_is_origin dc_is_origin pm_is_origin an_is_origin cd_is_origin ct_is_origin), sl_is_origin⟩)
    (c_is_origin : PySem.W.codeIn K cd_is_origin "_law_is_origin" = true)
    (k_is_origin : PySem.W.keepIn K (.ref f_is_origin) = true)
    (a_is_word : PySem.W.nsIn K mainGlobals "_law_is_word" = some (some (.ref f_is_word)))
    (l_is_word : K.lookup f_is_word = some ⟨oc_is_word, od_is_word, .func (PySem.W.fnOf "_law_is_word" "_law_is_word" (defArgs (topS 56)) (defBody (topS 56)) (defScope (topS 56)) .none kV_is_word dc_is_word pm_is_word an_is_word cd_is_word ct_is_word), sl_is_word⟩)
    (c_is_word : PySem.W.codeIn K cd_is_word "_law_is_word" = true)
    (k_is_word : PySem.W.keepIn K (.ref f_is_word) = true)
    (a_lis_work : PySem.W.nsIn K mainGlobals "_law_is_work" = some (some (.ref f_lis_work)))
    (l_lis_work : K.lookup f_lis_work = some ⟨oc_lis_work, od_lis_work, .func (PySem.W.fnOf "_law_is_work" "_law_is_work" (defArgs (topS 57)) (defBody (topS 57)) (defScope (topS 57)) .none kV_lis_work dc_lis_work pm_lis_work an_lis_work cd_lis_work ct_lis_work), sl_lis_work⟩)
    (c_lis_work : PySem.W.codeIn K cd_lis_work "_law_is_work" = true)
    (k_lis_work : PySem.W.keepIn K (.ref f_lis_work) = true)
    (a_behind : PySem.W.nsIn K mainGlobals "_law_behind" = some (some (.ref f_behind)))
    (l_behind : K.lookup f_behind = some ⟨oc_behind, od_behind, .func (PySem.W.fnOf "_law_behind" "_law_behind" (defArgs (topS 58)) (defBody (topS 58)) (defScope (topS 58)) .none kV_behind dc_behind pm_behind an_behind cd_behind ct_behind), sl_behind⟩)
    (c_behind : PySem.W.codeIn K cd_behind "_law_behind" = true)
    (k_behind : PySem.W.keepIn K (.ref f_behind) = true)
    (a_spoilt : PySem.W.nsIn K mainGlobals "_law_spoilt_work" = some (some (.ref f_spoilt)))
    (l_spoilt : K.lookup f_spoilt = some ⟨oc_spoilt, od_spoilt, .func (PySem.W.fnOf "_law_spoilt_work" "_law_spoilt_work" (defArgs (topS 59)) (defBody (topS 59)) (defScope (topS 59)) .none kV_spoilt dc_spoilt pm_spoilt an_spoilt cd_spoilt ct_spoilt), sl_spoilt⟩)
    (c_spoilt : PySem.W.codeIn K cd_spoilt "_law_spoilt_work" = true)
    (k_spoilt : PySem.W.keepIn K (.ref f_spoilt) = true)
    (a_state : PySem.W.nsIn K mainGlobals "_law_state" = some (some (.ref f_state)))
    (l_state : K.lookup f_state = some ⟨oc_state, od_state, .func (PySem.W.fnOf "_law_state" "_law_state" (defArgs (topS 60)) (defBody (topS 60)) (defScope (topS 60)) .none kV_state dc_state pm_state an_state cd_state ct_state), sl_state⟩)
    (c_state : PySem.W.codeIn K cd_state "_law_state" = true)
    (k_state : PySem.W.keepIn K (.ref f_state) = true)
    (a_next : PySem.W.nsIn K mainGlobals "_law_next" = some (some (.ref f_next)))
    (l_next : K.lookup f_next = some ⟨oc_next, od_next, .func (PySem.W.fnOf "_law_next" "_law_next" (defArgs (topS 61)) (defBody (topS 61)) (defScope (topS 61)) .none kV_next dc_next pm_next an_next cd_next ct_next), sl_next⟩)
    (c_next : PySem.W.codeIn K cd_next "_law_next" = true)
    (k_next : PySem.W.keepIn K (.ref f_next) = true)
    (a_asked : PySem.W.nsIn K mainGlobals "_law_asked" = some (some (.ref f_asked)))
    (l_asked : K.lookup f_asked = some ⟨oc_asked, od_asked, .func (PySem.W.fnOf "_law_asked" "_law_asked" (defArgs (topS 62)) (defBody (topS 62)) (defScope (topS 62)) .none kV_asked dc_asked pm_asked an_asked cd_asked ct_asked), sl_asked⟩)
    (c_asked : PySem.W.codeIn K cd_asked "_law_asked" = true)
    (k_asked : PySem.W.keepIn K (.ref f_asked) = true)
    (a_right : PySem.W.nsIn K mainGlobals "_law_right" = some (some (.ref f_right)))
    (l_right : K.lookup f_right = some ⟨oc_right, od_right, .func (PySem.W.fnOf "_law_right" "_law_right" (defArgs (topS 63)) (defBody (topS 63)) (defScope (topS 63)) .none kV_right dc_right pm_right an_right cd_right ct_right), sl_right⟩)
    (c_right : PySem.W.codeIn K cd_right "_law_right" = true)
    (k_right : PySem.W.keepIn K (.ref f_right) = true)
    (pgB : PySem.W.plainGet K CB Str.empty = true)
    (hdB : PySem.W.hasDictIn K CB = true)
    (poB : PySem.W.plainOver K CB = true)
    (saB : PySem.W.findIn K (.ref CB) "__setattr__" = some (some (.builtin "object.__setattr__")))
    (pgS : PySem.W.plainGet K CS Str.empty = true)
    (hdS : PySem.W.hasDictIn K CS = true)
    (poS : PySem.W.plainOver K CS = true)
    (saS : PySem.W.findIn K (.ref CS) "__setattr__" = some (some (.builtin "object.__setattr__")))
    (ha : PySem.W.findIn K (.ref CB) "__class__" = some (some (.builtin "object.__class__")))
    (hn : PySem.W.specialIn K (.builtin "object.__class__") "__get__" = some (some (.builtin "getset_descriptor.__get__")))
    (htk : PySem.W.takesIn K (.builtin "object.__class__") = some true)
    (hm : PySem.W.mroIn K CB (.type "object") = some true)
    (nB : PySem.W.findIn K (.ref CB) "own_pairs" = some none)
    (nSb : PySem.W.findIn K (.ref CS) "own_book" = some none)
    (nSt : PySem.W.findIn K (.ref CS) "own_table" = some none)
    (nSs : PySem.W.findIn K (.ref CS) "own_start" = some none)
    (mkB : PySem.W.makesIn K CB = true)
    (kcB : PySem.W.keepIn K (.ref CB) = true)
    (aBI : PySem.W.findIn K (.ref CB) "__init__" = some (some (.ref fBI)))
    (iBI : PySem.W.isFn K (.ref fBI) = true)
    (lBI : K.lookup fBI = some ⟨ocBI, odBI, .func (PySem.W.fnOf "__init__" "Book.__init__" (defArgs (cBook 0)) (defBody (cBook 0)) (defScope (cBook 0)) .none kVBI dcBI pmBI anBI cdBI ctBI), slBI⟩)
    (cBI : PySem.W.codeIn K cdBI "Book.__init__" = true)
    (kBI : PySem.W.keepIn K (.ref fBI) = true)
    (rdBO : PySem.W.readsIn K CB (.type "type") = true)
    (gaBO : PySem.W.specialIn K (.ref CB) "__getattribute__" = some (some (.builtin "type.__getattribute__")))
    (atBO : PySem.W.findCls K (.ref CB) (.type "type") "of" = some (.get (.builtin "classmethod.__get__") (.ref pBO) .none (.ref CB)))
    (rcBO : PySem.W.recIn K pBO "classmethod" = some (.ref fBO :: rBO))
    (fiBO : PySem.W.fnIn K fBO = true)
    (lBO : K.lookup fBO = some ⟨ocBO, odBO, .func (PySem.W.fnOf "of" "Book.of" (defArgs (cBook 1)) (defBody (cBook 1)) (defScope (cBook 1)) .none kVBO dcBO pmBO anBO cdBO ctBO), slBO⟩)
    (cBO : PySem.W.codeIn K cdBO "Book.of" = true)
    (kBO : PySem.W.keepIn K (.ref fBO) = true)
    (atBC : PySem.W.findIn K (.ref CB) "commands" = some (some (.ref pBC)))
    (gtBC : PySem.W.specialIn K (.ref pBC) "__get__" = some (some (.builtin "property.__get__")))
    (tkBC : PySem.W.takesIn K (.ref pBC) = some true)
    (rcBC : PySem.W.recIn K pBC "property" = some (.ref fBC :: rBC))
    (lBC : K.lookup fBC = some ⟨ocBC, odBC, .func (PySem.W.fnOf "commands" "Book.commands" (defArgs (cBook 2)) (defBody (cBook 2)) (defScope (cBook 2)) .none kVBC dcBC pmBC anBC cdBC ctBC), slBC⟩)
    (cBC : PySem.W.codeIn K cdBC "Book.commands" = true)
    (kBC : PySem.W.keepIn K (.ref fBC) = true)
    (aBU : PySem.W.findIn K (.ref CB) "outcomes" = some (some (.ref fBU)))
    (iBU : PySem.W.isFn K (.ref fBU) = true)
    (lBU : K.lookup fBU = some ⟨ocBU, odBU, .func (PySem.W.fnOf "outcomes" "Book.outcomes" (defArgs (cBook 5)) (defBody (cBook 5)) (defScope (cBook 5)) .none kVBU dcBU pmBU anBU cdBU ctBU), slBU⟩)
    (cBU : PySem.W.codeIn K cdBU "Book.outcomes" = true)
    (kBU : PySem.W.keepIn K (.ref fBU) = true)
    (mkS : PySem.W.makesIn K CS = true)
    (kcS : PySem.W.keepIn K (.ref CS) = true)
    (aSI : PySem.W.findIn K (.ref CS) "__init__" = some (some (.ref fSI)))
    (iSI : PySem.W.isFn K (.ref fSI) = true)
    (lSI : K.lookup fSI = some ⟨ocSI, odSI, .func (PySem.W.fnOf "__init__" "Server.__init__" (defArgs (cServer 0)) (defBody (cServer 0)) (defScope (cServer 0)) .none kVSI dcSI pmSI anSI cdSI ctSI), slSI⟩)
    (cSI : PySem.W.codeIn K cdSI "Server.__init__" = true)
    (kSI : PySem.W.keepIn K (.ref fSI) = true)
    (aSC : PySem.W.findIn K (.ref CS) "__call__" = some (some (.ref fSC)))
    (iSC : PySem.W.isFn K (.ref fSC) = true)
    (fiSC : PySem.W.fnIn K fSC = true)
    (lSC : K.lookup fSC = some ⟨ocSC, odSC, .func (PySem.W.fnOf "__call__" "Server.__call__" (defArgs (cServer 6)) (defBody (cServer 6)) (defScope (cServer 6)) .none kVSC dcSC pmSC anSC cdSC ctSC), slSC⟩)
    (cSC : PySem.W.codeIn K cdSC "Server.__call__" = true)
    (kSC : PySem.W.keepIn K (.ref fSC) = true)
    (aSO : PySem.W.findIn K (.ref CS) "outcome" = some (some (.ref fSO)))
    (iSO : PySem.W.isFn K (.ref fSO) = true)
    (lSO : K.lookup fSO = some ⟨ocSO, odSO, .func (PySem.W.fnOf "outcome" "Server.outcome" (defArgs (cServer 7)) (defBody (cServer 7)) (defScope (cServer 7)) .none kVSO dcSO pmSO anSO cdSO ctSO), slSO⟩)
    (cSO : PySem.W.codeIn K cdSO "Server.outcome" = true)
    (kSO : PySem.W.keepIn K (.ref fSO) = true)
    (xI : PySem.W.excIn K CI [.type "ValueError", .type "Exception", .type "BaseException", .type "object"] "ValueError.__new__" = true)
    (kI : PySem.W.keepIn K (.ref CI) = true)
    (bI : PySem.W.subIn K (.ref CI) (.type "BaseException") = some true)
    (tI : PySem.W.typeIn K (.ref CI) = some (.type "type"))
    (iI : PySem.W.isClsIn K CI = true)
    (sI : PySem.W.subIn K (.ref CI) (.ref CI) = some true)
    (aLAW : PySem.W.nsIn K mainGlobals "law" = some (some (.ref fLAW)))
    (lLAW : K.lookup fLAW = some ⟨ocLAW, odLAW, .func (PySem.W.fnOf "law" "law" (defArgs (topS 64)) (defBody (topS 64)) (defScope (topS 64)) .none kVLAW dcLAW pmLAW anLAW cdLAW ctLAW), slLAW⟩)
    (cLAW : PySem.W.codeIn K cdLAW "law" = true)
    (kLAW : PySem.W.keepIn K (.ref fLAW) = true) :
    ∃ fd : FuncData, (∀ (s : Shared) (v : Value), BindsTo s fd ⟨[v], []⟩ [("_law_script", v)]) ∧ ∀ base : Heap, K.In base → base.Ns mainGlobals mg → FnOk l.prog w K mg base CX0 12 fa fd ["_law_script"] (sp_law K) := by
  have e := hfa.symm.trans (PySem.W.mg_of X G aLAW)
  cases e
  have T : Txt K mg CB CS CI := {
    gB := PySem.W.mg_of X G gB
    gS := PySem.W.mg_of X G gS
    gI := PySem.W.mg_of X G gI
    zlen := PySem.W.mg_none_of X G zlen
    zisi := PySem.W.mg_none_of X G zisi
    zall := PySem.W.mg_none_of X G zall
    zsorted := PySem.W.mg_none_of X G zsorted
    zabs := PySem.W.mg_none_of X G zabs
    zmax := PySem.W.mg_none_of X G zmax
    zmin := PySem.W.mg_none_of X G zmin
    zint := PySem.W.mg_none_of X G zint
    zstr := PySem.W.mg_none_of X G zstr
    zbool := PySem.W.mg_none_of X G zbool
    zlist := PySem.W.mg_none_of X G zlist
    ztuple := PySem.W.mg_none_of X G ztuple
    zdict := PySem.W.mg_none_of X G zdict
    zzip := PySem.W.mg_none_of X G zzip
    zrange := PySem.W.mg_none_of X G zrange
    cLetters := ⟨_, PySem.W.mg_of X G cLetters⟩
    cMaxL := ⟨_, PySem.W.mg_of X G cMaxL⟩
    cMaxC := ⟨_, PySem.W.mg_of X G cMaxC⟩
    cMaxT := ⟨_, PySem.W.mg_of X G cMaxT⟩
    cMaxA := ⟨_, PySem.W.mg_of X G cMaxA⟩
    cMaxS := ⟨_, PySem.W.mg_of X G cMaxS⟩
    cFailed := ⟨_, PySem.W.mg_of X G cFailed⟩
    cKept := ⟨_, PySem.W.mg_of X G cKept⟩
    cReserved := ⟨acReserved, PySem.W.mg_of X G cReserved, fun H => .inr ⟨_, _, _, lcReserved, rfl, rfl, by show 4 ≤ sizeLine; exact sz1000 (by decide), .cons ⟨_, rfl⟩ (.cons ⟨_, rfl⟩ (.cons ⟨_, rfl⟩ (.cons ⟨_, rfl⟩ (.nil))))⟩⟩
    cKeptE := ⟨acKeptE, PySem.W.mg_of X G cKeptE, fun H => .inr ⟨_, _, _, lcKeptE, rfl, rfl, by show 1 ≤ sizeLine; exact sz1000 (by decide), .cons ⟨_, rfl⟩ (.nil)⟩⟩
    f_is_name := ⟨_, _, fun_mk (st := topS 5) l_is_name c_is_name k_is_name, PySem.W.mg_of X G a_is_name, ((fun_mk (st := topS 5) l_is_name c_is_name k_is_name).binds (ps := ["value"]) fun _ _ _ _ _ _ us hl => match us, hl with | [_], _ => rfl)⟩
    f_is_answer := ⟨_, _, fun_mk (st := topS 6) l_is_answer c_is_answer k_is_answer, PySem.W.mg_of X G a_is_answer, ((fun_mk (st := topS 6) l_is_answer c_is_answer k_is_answer).binds (ps := ["value"]) fun _ _ _ _ _ _ us hl => match us, hl with | [_], _ => rfl)⟩
    f_is_integer := ⟨_, _, fun_mk (st := topS 7) l_is_integer c_is_integer k_is_integer, PySem.W.mg_of X G a_is_integer, ((fun_mk (st := topS 7) l_is_integer c_is_integer k_is_integer).binds (ps := ["value"]) fun _ _ _ _ _ _ us hl => match us, hl with | [_], _ => rfl)⟩
    f_are_ascending := ⟨_, _, fun_mk (st := topS 8) l_are_ascending c_are_ascending k_are_ascending, PySem.W.mg_of X G a_are_ascending, ((fun_mk (st := topS 8) l_are_ascending c_are_ascending k_are_ascending).binds (ps := ["items"]) fun _ _ _ _ _ _ us hl => match us, hl with | [_], _ => rfl)⟩
    f_is_pair := ⟨_, _, fun_mk (st := topS 20) l_is_pair c_is_pair k_is_pair, PySem.W.mg_of X G a_is_pair, ((fun_mk (st := topS 20) l_is_pair c_is_pair k_is_pair).binds (ps := ["value"]) fun _ _ _ _ _ _ us hl => match us, hl with | [_], _ => rfl)⟩
    f_pairs_of := ⟨_, _, fun_mk (st := topS 21) l_pairs_of c_pairs_of k_pairs_of, PySem.W.mg_of X G a_pairs_of, ((fun_mk (st := topS 21) l_pairs_of c_pairs_of k_pairs_of).binds (ps := ["commands"]) fun _ _ _ _ _ _ us hl => match us, hl with | [_], _ => rfl)⟩
    f_is_command := ⟨_, _, fun_mk (st := topS 23) l_is_command c_is_command k_is_command, PySem.W.mg_of X G a_is_command, ((fun_mk (st := topS 23) l_is_command c_is_command k_is_command).binds (ps := ["book", "value"]) fun _ _ _ _ _ _ us hl => match us, hl with | [_, _], _ => rfl)⟩
    f_outcomes_in := ⟨_, _, fun_mk (st := topS 24) l_outcomes_in c_outcomes_in k_outcomes_in, PySem.W.mg_of X G a_outcomes_in, ((fun_mk (st := topS 24) l_outcomes_in c_outcomes_in k_outcomes_in).binds (ps := ["book", "command"]) fun _ _ _ _ _ _ us hl => match us, hl with | [_, _], _ => rfl)⟩
    f_require_book := ⟨_, _, fun_mk (st := topS 25) l_require_book c_require_book k_require_book, PySem.W.mg_of X G a_require_book, ((fun_mk (st := topS 25) l_require_book c_require_book k_require_book).binds (ps := ["book"]) fun _ _ _ _ _ _ us hl => match us, hl with | [_], _ => rfl)⟩
    f_require_command := ⟨_, _, fun_mk (st := topS 26) l_require_command c_require_command k_require_command, PySem.W.mg_of X G a_require_command, ((fun_mk (st := topS 26) l_require_command c_require_command k_require_command).binds (ps := ["book", "command"]) fun _ _ _ _ _ _ us hl => match us, hl with | [_, _], _ => rfl)⟩
    f_is_entry_line := ⟨_, _, fun_mk (st := topS 29) l_is_entry_line c_is_entry_line k_is_entry_line, PySem.W.mg_of X G a_is_entry_line, ((fun_mk (st := topS 29) l_is_entry_line c_is_entry_line k_is_entry_line).binds (ps := ["book", "value", "numbers"]) fun _ _ _ _ _ _ us hl => match us, hl with | [_, _, _], _ => rfl)⟩
    f_is_work := ⟨_, _, fun_mk (st := topS 31) l_is_work c_is_work k_is_work, PySem.W.mg_of X G a_is_work, ((fun_mk (st := topS 31) l_is_work c_is_work k_is_work).binds (ps := ["book", "value"]) fun _ _ _ _ _ _ us hl => match us, hl with | [_, _], _ => rfl)⟩
    f_is_state := ⟨_, _, fun_mk (st := topS 35) l_is_state c_is_state k_is_state, PySem.W.mg_of X G a_is_state, ((fun_mk (st := topS 35) l_is_state c_is_state k_is_state).binds (ps := ["states", "value"]) fun _ _ _ _ _ _ us hl => match us, hl with | [_, _], _ => rfl)⟩
    f_is_entry_servers := ⟨_, _, fun_mk (st := topS 36) l_is_entry_servers c_is_entry_servers k_is_entry_servers, PySem.W.mg_of X G a_is_entry_servers, ((fun_mk (st := topS 36) l_is_entry_servers c_is_entry_servers k_is_entry_servers).binds (ps := ["book", "states", "key", "value"]) fun _ _ _ _ _ _ us hl => match us, hl with | [_, _, _, _], _ => rfl)⟩
    f_are_entries := ⟨_, _, fun_mk (st := topS 38) l_are_entries c_are_entries k_are_entries, PySem.W.mg_of X G a_are_entries, ((fun_mk (st := topS 38) l_are_entries c_are_entries k_are_entries).binds (ps := ["book", "states", "value"]) fun _ _ _ _ _ _ us hl => match us, hl with | [_, _, _], _ => rfl)⟩
    f_is_table := ⟨_, _, fun_mk (st := topS 39) l_is_table c_is_table k_is_table, PySem.W.mg_of X G a_is_table, ((fun_mk (st := topS 39) l_is_table c_is_table k_is_table).binds (ps := ["book", "value"]) fun _ _ _ _ _ _ us hl => match us, hl with | [_, _], _ => rfl)⟩
    f_dice := ⟨_, _, fun_mk (st := topS 42) l_dice c_dice k_dice, PySem.W.mg_of X G a_dice, ((fun_mk (st := topS 42) l_dice c_dice k_dice).binds (ps := ["_law_script", "_law_at"]) fun _ _ _ _ _ _ us hl => match us, hl with | [_, _], _ => rfl)⟩
    f_roll := ⟨_, _, fun_mk (st := topS 43) l_roll c_roll k_roll, PySem.W.mg_of X G a_roll, ((fun_mk (st := topS 43) l_roll c_roll k_roll).binds (ps := ["_law_dice_here", "_law_total"]) fun _ _ _ _ _ _ us hl => match us, hl with | [_, _], _ => rfl)⟩
    f_one_of := ⟨_, _, fun_mk (st := topS 44) l_one_of c_one_of k_one_of, PySem.W.mg_of X G a_one_of, ((fun_mk (st := topS 44) l_one_of c_one_of k_one_of).binds (ps := ["_law_dice_here", "_law_choices"]) fun _ _ _ _ _ _ us hl => match us, hl with | [_, _], _ => rfl)⟩
    f_mixed := ⟨_, _, fun_mk (st := topS 45) l_mixed c_mixed k_mixed, PySem.W.mg_of X G a_mixed, ((fun_mk (st := topS 45) l_mixed c_mixed k_mixed).binds (ps := ["_law_dice_here", "_law_choices"]) fun _ _ _ _ _ _ us hl => match us, hl with | [_, _], _ => rfl)⟩
    f_word := ⟨_, _, fun_mk (st := topS 46) l_word c_word k_word, PySem.W.mg_of X G a_word, ((fun_mk (st := topS 46) l_word c_word k_word).binds (ps := ["_law_dice_here", "_law_others"]) fun _ _ _ _ _ _ us hl => match us, hl with | [_, _], _ => rfl)⟩
    f_words := ⟨_, _, fun_mk (st := topS 47) l_words c_words k_words, PySem.W.mg_of X G a_words, ((fun_mk (st := topS 47) l_words c_words k_words).binds (ps := ["_law_dice_here", "_law_many", "_law_others"]) fun _ _ _ _ _ _ us hl => match us, hl with | [_, _, _], _ => rfl)⟩
    f_reserved := ⟨_, _, fun_mk (st := topS 48) l_reserved c_reserved k_reserved, PySem.W.mg_of X G a_reserved, ((fun_mk (st := topS 48) l_reserved c_reserved k_reserved).binds (ps := []) fun _ _ _ _ _ _ us hl => match us, hl with | [], _ => rfl)⟩
    f_pairs := ⟨_, _, fun_mk (st := topS 49) l_pairs c_pairs k_pairs, PySem.W.mg_of X G a_pairs, ((fun_mk (st := topS 49) l_pairs c_pairs k_pairs).binds (ps := ["_law_dice_here", "_law_most"]) fun _ _ _ _ _ _ us hl => match us, hl with | [_, _], _ => rfl)⟩
    f_outcomes := ⟨_, _, fun_mk (st := topS 50) l_outcomes c_outcomes k_outcomes, PySem.W.mg_of X G a_outcomes, ((fun_mk (st := topS 50) l_outcomes c_outcomes k_outcomes).binds (ps := ["_law_pairs_here", "_law_command"]) fun _ _ _ _ _ _ us hl => match us, hl with | [_, _], _ => rfl)⟩
    f_entries := ⟨_, _, fun_mk (st := topS 51) l_entries c_entries k_entries, PySem.W.mg_of X G a_entries, ((fun_mk (st := topS 51) l_entries c_entries k_entries).binds (ps := ["_law_dice_here", "_law_pairs_here", "_law_states"]) fun _ _ _ _ _ _ us hl => match us, hl with | [_, _, _], _ => rfl)⟩
    f_table := ⟨_, _, fun_mk (st := topS 52) l_table c_table k_table, PySem.W.mg_of X G a_table, ((fun_mk (st := topS 52) l_table c_table k_table).binds (ps := ["_law_dice_here", "_law_pairs_here", "_law_most"]) fun _ _ _ _ _ _ us hl => match us, hl with | [_, _, _], _ => rfl)⟩
    f_origins := ⟨_, _, fun_mk (st := topS 53) l_origins c_origins k_origins, PySem.W.mg_of X G a_origins, ((fun_mk (st := topS 53) l_origins c_origins k_origins).binds (ps := ["_law_dice_here", "_law_many", "_law_done"]) fun _ _ _ _ _ _ us hl => match us, hl with | [_, _, _], _ => rfl)⟩
    f_works := ⟨_, _, fun_mk (st := topS 54) l_works c_works k_works, PySem.W.mg_of X G a_works, ((fun_mk (st := topS 54) l_works c_works k_works).binds (ps := ["_law_dice_here", "_law_pairs_here", "_law_table_here", "_law_state_here", "_law_many"]) fun _ _ _ _ _ _ us hl => match us, hl with | [_, _, _, _, _], _ => rfl)⟩
    f_is_origin := ⟨_, _, fun_mk (st := topS 55) l_is_origin c_is_origin k_is_origin, PySem.W.mg_of X G a_is_origin, ((fun_mk (st := topS 55) l_is_origin c_is_origin k_is_origin).binds (ps := ["_law_value", "_law_done"]) fun _ _ _ _ _ _ us hl => match us, hl with | [_, _], _ => rfl)⟩
    f_is_word := ⟨_, _, fun_mk (st := topS 56) l_is_word c_is_word k_is_word, PySem.W.mg_of X G a_is_word, ((fun_mk (st := topS 56) l_is_word c_is_word k_is_word).binds (ps := ["_law_value"]) fun _ _ _ _ _ _ us hl => match us, hl with | [_], _ => rfl)⟩
    f_lis_work := ⟨_, _, fun_mk (st := topS 57) l_lis_work c_lis_work k_lis_work, PySem.W.mg_of X G a_lis_work, ((fun_mk (st := topS 57) l_lis_work c_lis_work k_lis_work).binds (ps := ["_law_pairs_here", "_law_value"]) fun _ _ _ _ _ _ us hl => match us, hl with | [_, _], _ => rfl)⟩
    f_behind := ⟨_, _, fun_mk (st := topS 58) l_behind c_behind k_behind, PySem.W.mg_of X G a_behind, ((fun_mk (st := topS 58) l_behind c_behind k_behind).binds (ps := ["_law_pairs_here", "_law_table_here", "_law_root", "_law_work"]) fun _ _ _ _ _ _ us hl => match us, hl with | [_, _, _, _], _ => rfl)⟩
    f_spoilt := ⟨_, _, fun_mk (st := topS 59) l_spoilt c_spoilt k_spoilt, PySem.W.mg_of X G a_spoilt, ((fun_mk (st := topS 59) l_spoilt c_spoilt k_spoilt).binds (ps := ["_law_dice_here", "_law_pairs_here", "_law_work"]) fun _ _ _ _ _ _ us hl => match us, hl with | [_, _, _], _ => rfl)⟩
    f_state := ⟨_, _, fun_mk (st := topS 60) l_state c_state k_state, PySem.W.mg_of X G a_state, ((fun_mk (st := topS 60) l_state c_state k_state).binds (ps := ["_law_server", "_law_work"]) fun _ _ _ _ _ _ us hl => match us, hl with | [_, _], _ => rfl)⟩
    f_next := ⟨_, _, fun_mk (st := topS 61) l_next c_next k_next, PySem.W.mg_of X G a_next, ((fun_mk (st := topS 61) l_next c_next k_next).binds (ps := ["_law_server", "_law_work", "_law_command"]) fun _ _ _ _ _ _ us hl => match us, hl with | [_, _, _], _ => rfl)⟩
    f_asked := ⟨_, _, fun_mk (st := topS 62) l_asked c_asked k_asked, PySem.W.mg_of X G a_asked, ((fun_mk (st := topS 62) l_asked c_asked k_asked).binds (ps := ["_law_server", "_law_pairs_here", "_law_table_here", "_law_root", "_law_work"]) fun _ _ _ _ _ _ us hl => match us, hl with | [_, _, _, _, _], _ => rfl)⟩
    f_right := ⟨_, _, fun_mk (st := topS 63) l_right c_right k_right, PySem.W.mg_of X G a_right, ((fun_mk (st := topS 63) l_right c_right k_right).binds (ps := ["_law_dice_here"]) fun _ _ _ _ _ _ us hl => match us, hl with | [_], _ => rfl)⟩
    clB := ⟨pgB, hdB, poB, saB⟩
    clS := ⟨pgS, hdS, poS, saS⟩
    inB := ⟨ha, hn, htk, hm, kit_self CB⟩
    nB := nB
    nSb := nSb
    nSt := nSt
    nSs := nSs
    mkB := ⟨_, _, ⟨mkB, aBI, iBI, kcB⟩, fun_mk (st := cBook 0) lBI cBI kBI⟩
    ofB := ⟨_, _, _, .type "type", ⟨rdBO, gaBO⟩, ⟨atBO, ⟨_, rcBO⟩, fiBO⟩, fun_mk (st := cBook 1) lBO cBO kBO, ((fun_mk (st := cBook 1) lBO cBO kBO).binds (ps := ["cls", "commands"]) fun _ _ _ _ _ _ us hl => match us, hl with | [_, _], _ => rfl)⟩
    prB := ⟨_, _, _, ⟨atBC, gtBC, tkBC, ⟨_, rcBC⟩⟩, fun_mk (st := cBook 2) lBC cBC kBC, ((fun_mk (st := cBook 2) lBC cBC kBC).binds (ps := ["self"]) fun _ _ _ _ _ _ us hl => match us, hl with | [_], _ => rfl)⟩
    ocB := ⟨_, _, fun_mk (st := cBook 5) lBU cBU kBU, ⟨aBU, iBU, kBU⟩, ((fun_mk (st := cBook 5) lBU cBU kBU).binds (ps := ["self", "command"]) fun _ _ _ _ _ _ us hl => match us, hl with | [_, _], _ => rfl)⟩
    mkS := ⟨_, _, ⟨mkS, aSI, iSI, kcS⟩, fun_mk (st := cServer 0) lSI cSI kSI, ⟨fun s us ws _ hl hw => .of_eq (match us, ws, hl, hw with | [_, _, _], [_], _, _ => rfl), fun r z => r.append z⟩⟩
    caS := ⟨_, _, ⟨aSC, iSC, fiSC⟩, fun_mk (st := cServer 6) lSC cSC kSC, ((fun_mk (st := cServer 6) lSC cSC kSC).binds (ps := ["self", "work"]) fun _ _ _ _ _ _ us hl => match us, hl with | [_, _], _ => rfl)⟩
    ocS := ⟨_, _, fun_mk (st := cServer 7) lSO cSO kSO, ⟨aSO, iSO, kSO⟩, ((fun_mk (st := cServer 7) lSO cSO kSO).binds (ps := ["self", "work", "command"]) fun _ _ _ _ _ _ us hl => match us, hl with | [_, _, _], _ => rfl)⟩
    xI := xI
    kI := kI
    bI := bI
    tI := tI
    eI := exm_self bI iI tI sI }
  exact ⟨PySem.W.fnOf "law" "law" (defArgs (topS 64)) (defBody (topS 64)) (defScope (topS 64)) .none kVLAW dcLAW pmLAW anLAW cdLAW ctLAW, fun s v => .of_eq rfl, fun base _ _ => ok_law T (fun_mk (st := topS 64) lLAW cLAW kLAW)⟩
theorem walk {l : PySem.W.OpenLaw} {q : Program} {loose : List Str} {XP : (Str → Option Value) → Heap → Prop} {YP : World → Heap → Prop} {d : DefRec} {K : Params → PySem.W.Frag} (hn : l.most = some 63) (hdf : d.params.defaults = [])
    (hY : ∀ (w : World) (h : Heap), YP w h → (K w.params).In h)
    (F : ∀ (w : World) (mg : Str → Option Value) (fa : Addr) (h : Heap), (K w.params).In h → h.Ns mainGlobals mg → mg d.name = some (.ref fa) →
      ∃ fd : FuncData, (∀ (s : Shared) (u : Value), BindsTo s fd ⟨[u], []⟩ [("_law_script", u)]) ∧ ∀ base : Heap, (K w.params).In base → base.Ns mainGlobals mg → FnOk l.prog w (K w.params) mg base CX0 12 fa fd ["_law_script"] (sp_law (K w.params))) :
    PySem.W.WalkO q loose XP YP l.row.toRowW d [] (fun f vs => PySem.call f vs) :=
  L2.walk_of (n := 63) (k := 12) (x := "_law_script") (CX := fun _ => CX0) (sp := fun w => sp_law (K w.params)) hn (by decide) hdf ⟨rfl, by decide, by decide⟩ hY F (fun _ _ a ns hl _ hS => ⟨a, ns, rfl, hS, hl, fun _ => rfl⟩) fun _ _ _ _ _ z => z
end Sk
open PySem PySem.W PyProof.Rows
set_option maxRecDepth 100000 in
set_option maxHeartbeats 0 in
theorem PySem.Challenge.cw_skipahead_k11_whole_works_of_servers_holds : PySem.Challenge.rw_skipahead_k11_whole_works_of_servers.Holds := by
  w_on; o_law; k_head; (case hw => w_witness2)
  k_fill
  refine Sk.walk (l := PySem.Challenge.rw_skipahead_k11_whole_works_of_servers) rfl rfl (fun w h Y => PySem.W.kIn_of Y) ?F
  case F =>
    intro w mg fa h KX G hmg
    refine' Sk.all_mk KX G hmg ?gB ?gS ?gI ?zlen ?zisi ?zall ?zsorted ?zabs ?zmax ?zmin ?zint ?zstr ?zbool ?zlist ?ztuple ?zdict ?zzip ?zrange ?cLetters ?cMaxL ?cMaxC ?cMaxT ?cMaxA ?cMaxS ?cFailed ?cKept ?cReserved ?lcReserved ?cKeptE ?lcKeptE ?a_is_name ?l_is_name ?c_is_name ?k_is_name ?a_is_answer ?l_is_answer ?c_is_answer ?k_is_answer ?a_is_integer ?l_is_integer ?c_is_integer ?k_is_integer ?a_are_ascending ?l_are_ascending ?c_are_ascending ?k_are_ascending ?a_is_pair ?l_is_pair ?c_is_pair ?k_is_pair ?a_pairs_of ?l_pairs_of ?c_pairs_of ?k_pairs_of ?a_is_command ?l_is_command ?c_is_command ?k_is_command ?a_outcomes_in ?l_outcomes_in ?c_outcomes_in ?k_outcomes_in ?a_require_book ?l_require_book ?c_require_book ?k_require_book ?a_require_command ?l_require_command ?c_require_command ?k_require_command ?a_is_entry_line ?l_is_entry_line ?c_is_entry_line ?k_is_entry_line ?a_is_work ?l_is_work ?c_is_work ?k_is_work ?a_is_state ?l_is_state ?c_is_state ?k_is_state ?a_is_entry_servers ?l_is_entry_servers ?c_is_entry_servers ?k_is_entry_servers ?a_are_entries ?l_are_entries ?c_are_entries ?k_are_entries ?a_is_table ?l_is_table ?c_is_table ?k_is_table ?a_dice ?l_dice ?c_dice ?k_dice ?a_roll ?l_roll ?c_roll ?k_roll ?a_one_of ?l_one_of ?c_one_of ?k_one_of ?a_mixed ?l_mixed ?c_mixed ?k_mixed ?a_word ?l_word ?c_word ?k_word ?a_words ?l_words ?c_words ?k_words ?a_reserved ?l_reserved ?c_reserved ?k_reserved ?a_pairs ?l_pairs ?c_pairs ?k_pairs ?a_outcomes ?l_outcomes ?c_outcomes ?k_outcomes ?a_entries ?l_entries ?c_entries ?k_entries ?a_table ?l_table ?c_table ?k_table ?a_origins ?l_origins ?c_origins ?k_origins ?a_works ?l_works ?c_works ?k_works ?a_is_origin ?l_is_origin ?c_is_origin ?k_is_origin ?a_is_word ?l_is_word ?c_is_word ?k_is_word ?a_lis_work ?l_lis_work ?c_lis_work ?k_lis_work ?a_behind ?l_behind ?c_behind ?k_behind ?a_spoilt ?l_spoilt ?c_spoilt ?k_spoilt ?a_state ?l_state ?c_state ?k_state ?a_next ?l_next ?c_next ?k_next ?a_asked ?l_asked ?c_asked ?k_asked ?a_right ?l_right ?c_right ?k_right ?pgB ?hdB ?poB ?saB ?pgS ?hdS ?poS ?saS ?ha ?hn ?htk ?hm ?nB ?nSb ?nSt ?nSs ?mkB ?kcB ?aBI ?iBI ?lBI ?cBI ?kBI ?rdBO ?gaBO ?atBO ?rcBO ?fiBO ?lBO ?cBO ?kBO ?atBC ?gtBC ?tkBC ?rcBC ?lBC ?cBC ?kBC ?aBU ?iBU ?lBU ?cBU ?kBU ?mkS ?kcS ?aSI ?iSI ?lSI ?cSI ?kSI ?aSC ?iSC ?fiSC ?lSC ?cSC ?kSC ?aSO ?iSO ?lSO ?cSO ?kSO ?xI ?kI ?bI ?tI ?iI ?sI ?aLAW ?lLAW ?cLAW ?kLAW
    (case gB => k_is)
    (case gS => k_is)
    (case gI => k_is)
    (case zlen => k_is)
    (case zisi => k_is)
    (case zall => k_is)
    (case zsorted => k_is)
    (case zabs => k_is)
    (case zmax => k_is)
    (case zmin => k_is)
    (case zint => k_is)
    (case zstr => k_is)
    (case zbool => k_is)
    (case zlist => k_is)
    (case ztuple => k_is)
    (case zdict => k_is)
    (case zzip => k_is)
    (case zrange => k_is)
    (case cLetters => k_is)
    (case cMaxL => k_is)
    (case cMaxC => k_is)
    (case cMaxT => k_is)
    (case cMaxA => k_is)
    (case cMaxS => k_is)
    (case cFailed => k_is)
    (case cKept => k_is)
    (case cReserved => k_is)
    (case lcReserved => k_is)
    (case cKeptE => k_is)
    (case lcKeptE => k_is)
    (case a_is_name => k_is)
    (case l_is_name => k_is)
    (case c_is_name => k_is)
    (case k_is_name => k_is)
    (case a_is_answer => k_is)
    (case l_is_answer => k_is)
    (case c_is_answer => k_is)
    (case k_is_answer => k_is)
    (case a_is_integer => k_is)
    (case l_is_integer => k_is)
    (case c_is_integer => k_is)
    (case k_is_integer => k_is)
    (case a_are_ascending => k_is)
    (case l_are_ascending => k_is)
    (case c_are_ascending => k_is)
    (case k_are_ascending => k_is)
    (case a_is_pair => k_is)
    (case l_is_pair => k_is)
    (case c_is_pair => k_is)
    (case k_is_pair => k_is)
    (case a_pairs_of => k_is)
    (case l_pairs_of => k_is)
    (case c_pairs_of => k_is)
    (case k_pairs_of => k_is)
    (case a_is_command => k_is)
    (case l_is_command => k_is)
    (case c_is_command => k_is)
    (case k_is_command => k_is)
    (case a_outcomes_in => k_is)
    (case l_outcomes_in => k_is)
    (case c_outcomes_in => k_is)
    (case k_outcomes_in => k_is)
    (case a_require_book => k_is)
    (case l_require_book => k_is)
    (case c_require_book => k_is)
    (case k_require_book => k_is)
    (case a_require_command => k_is)
    (case l_require_command => k_is)
    (case c_require_command => k_is)
    (case k_require_command => k_is)
    (case a_is_entry_line => k_is)
    (case l_is_entry_line => k_is)
    (case c_is_entry_line => k_is)
    (case k_is_entry_line => k_is)
    (case a_is_work => k_is)
    (case l_is_work => k_is)
    (case c_is_work => k_is)
    (case k_is_work => k_is)
    (case a_is_state => k_is)
    (case l_is_state => k_is)
    (case c_is_state => k_is)
    (case k_is_state => k_is)
    (case a_is_entry_servers => k_is)
    (case l_is_entry_servers => k_is)
    (case c_is_entry_servers => k_is)
    (case k_is_entry_servers => k_is)
    (case a_are_entries => k_is)
    (case l_are_entries => k_is)
    (case c_are_entries => k_is)
    (case k_are_entries => k_is)
    (case a_is_table => k_is)
    (case l_is_table => k_is)
    (case c_is_table => k_is)
    (case k_is_table => k_is)
    (case a_dice => k_is)
    (case l_dice => k_is)
    (case c_dice => k_is)
    (case k_dice => k_is)
    (case a_roll => k_is)
    (case l_roll => k_is)
    (case c_roll => k_is)
    (case k_roll => k_is)
    (case a_one_of => k_is)
    (case l_one_of => k_is)
    (case c_one_of => k_is)
    (case k_one_of => k_is)
    (case a_mixed => k_is)
    (case l_mixed => k_is)
    (case c_mixed => k_is)
    (case k_mixed => k_is)
    (case a_word => k_is)
    (case l_word => k_is)
    (case c_word => k_is)
    (case k_word => k_is)
    (case a_words => k_is)
    (case l_words => k_is)
    (case c_words => k_is)
    (case k_words => k_is)
    (case a_reserved => k_is)
    (case l_reserved => k_is)
    (case c_reserved => k_is)
    (case k_reserved => k_is)
    (case a_pairs => k_is)
    (case l_pairs => k_is)
    (case c_pairs => k_is)
    (case k_pairs => k_is)
    (case a_outcomes => k_is)
    (case l_outcomes => k_is)
    (case c_outcomes => k_is)
    (case k_outcomes => k_is)
    (case a_entries => k_is)
    (case l_entries => k_is)
    (case c_entries => k_is)
    (case k_entries => k_is)
    (case a_table => k_is)
    (case l_table => k_is)
    (case c_table => k_is)
    (case k_table => k_is)
    (case a_origins => k_is)
    (case l_origins => k_is)
    (case c_origins => k_is)
    (case k_origins => k_is)
    (case a_works => k_is)
    (case l_works => k_is)
    (case c_works => k_is)
    (case k_works => k_is)
    (case a_is_origin => k_is)
    (case l_is_origin => k_is)
    (case c_is_origin => k_is)
    (case k_is_origin => k_is)
    (case a_is_word => k_is)
    (case l_is_word => k_is)
    (case c_is_word => k_is)
    (case k_is_word => k_is)
    (case a_lis_work => k_is)
    (case l_lis_work => k_is)
    (case c_lis_work => k_is)
    (case k_lis_work => k_is)
    (case a_behind => k_is)
    (case l_behind => k_is)
    (case c_behind => k_is)
    (case k_behind => k_is)
    (case a_spoilt => k_is)
    (case l_spoilt => k_is)
    (case c_spoilt => k_is)
    (case k_spoilt => k_is)
    (case a_state => k_is)
    (case l_state => k_is)
    (case c_state => k_is)
    (case k_state => k_is)
    (case a_next => k_is)
    (case l_next => k_is)
    (case c_next => k_is)
    (case k_next => k_is)
    (case a_asked => k_is)
    (case l_asked => k_is)
    (case c_asked => k_is)
    (case k_asked => k_is)
    (case a_right => k_is)
    (case l_right => k_is)
    (case c_right => k_is)
    (case k_right => k_is)
    (case pgB => k_is)
    (case hdB => k_is)
    (case poB => k_is)
    (case saB => k_is)
    (case pgS => k_is)
    (case hdS => k_is)
    (case poS => k_is)
    (case saS => k_is)
    (case ha => k_is)
    (case hn => k_is)
    (case htk => k_is)
    (case hm => k_is)
    (case nB => k_is)
    (case nSb => k_is)
    (case nSt => k_is)
    (case nSs => k_is)
    (case mkB => k_is)
    (case kcB => k_is)
    (case aBI => k_is)
    (case iBI => k_is)
    (case lBI => k_is)
    (case cBI => k_is)
    (case kBI => k_is)
    (case rdBO => k_is)
    (case gaBO => k_is)
    (case atBO => k_is)
    (case rcBO => k_is)
    (case fiBO => k_is)
    (case lBO => k_is)
    (case cBO => k_is)
    (case kBO => k_is)
    (case atBC => k_is)
    (case gtBC => k_is)
    (case tkBC => k_is)
    (case rcBC => k_is)
    (case lBC => k_is)
    (case cBC => k_is)
    (case kBC => k_is)
    (case aBU => k_is)
    (case iBU => k_is)
    (case lBU => k_is)
    (case cBU => k_is)
    (case kBU => k_is)
    (case mkS => k_is)
    (case kcS => k_is)
    (case aSI => k_is)
    (case iSI => k_is)
    (case lSI => k_is)
    (case cSI => k_is)
    (case kSI => k_is)
    (case aSC => k_is)
    (case iSC => k_is)
    (case fiSC => k_is)
    (case lSC => k_is)
    (case cSC => k_is)
    (case kSC => k_is)
    (case aSO => k_is)
    (case iSO => k_is)
    (case lSO => k_is)
    (case cSO => k_is)
    (case kSO => k_is)
    (case xI => k_exc)
    (case kI => k_is)
    (case bI => k_is)
    (case tI => k_is)
    (case iI => k_is)
    (case sI => first | rfl | k_is)
    (case aLAW => k_is)
    (case lLAW => k_is)
    (case cLAW => k_is)
    (case kLAW => k_is)
#print axioms PySem.Challenge.cw_skipahead_k11_whole_works_of_servers_holds
