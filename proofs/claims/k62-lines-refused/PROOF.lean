import PyProof.Rows.All
import Wide.All
import OpenK.AllK
import Wide.FinOn
import HandS.CallSlots
import HandS.ClsMeth
import HandS.Codes
import HandS.ExcField
import HandS.ExcInit
import HandS.ExcIs
import HandS.FStr
import HandS.Flow
import HandS.ForExc
import HandS.ForMost
import HandS.Head0
import HandS.Head1
import HandS.Head2
import HandS.HeadEnd
import HandS.HeadHook2
import HandS.HeadHook3
import HandS.HeadWalk
import HandS.IsInst
import HandS.Iter
import HandS.More
import HandS.NamedTupSort
import HandS.Property
import HandS.RaiseMore
import HandS.SlotsOwn
import HandS.StrSplit
import HandS.Style
import HandS.Text
import HandS.TryMany
import HandS.TryOnly
import HandS.Wide
import HandS.WideBits
import HandS.WordsExc
import KE.IntTextText
import KE.KDictOf
import KE.KExcIs
import KE.KIntText
import PyProof.DictUpdate
import PyProof.FitsInt
import PyProof.InstEq
import PyProof.Rows.SeqMore
import PyProof.Rows.StrBin
import PyProof.Rows.StrNews2
import PyProof.Rows.StrRev
import PyProof.Rows.StrSplitMax
import PyProof.StrBlockL
import PyProof.StrLaws
import PyProof.StrLawsChain
import PyProof.StrLawsIn
import PyProof.StrLawsTight
import PyProof.StrOps2
import PySem.Challenge.RW_letineditions_k62_lines_refused
set_option Elab.async false
set_option linter.all false
set_option autoImplicit false
set_option maxRecDepth 100000
set_option maxHeartbeats 1000000
/-! I30: rules that the hand layer lacks: a dict merged into another, {**a, **b}, {**a, k: v}. -/
namespace PySem
open Sem (wp)
section
variable {prog : Program} {w : World} {K : Type} [DecidableEq K] {knd : KeyKind prog w K} {A : Around} {E : Value → Shared → Prop} {s : Shared}
/-- what stands under the key, or nothing: a place of the dict that is stored at -/
theorem i3_dictPut {d : Addr} {kvs : List (K × Value)} {k : K} {key v : Value} {Q : Unit → Shared → Prop} (hkey : knd.is k key = true) (hm : s.heap.DictOf knd d kvs) (hsz : kvs.length ≤ sizeLine)
    (hQ : ∀ h', h'.DictOf knd d (stored kvs k v) → Heap.SameBut d s.heap h' → Q () { s with heap := h' }) : wpAny (model prog w) A (dictPut d (knd.hash k) key v) Q E s := by
  obtain ⟨o, es, ep, ho, hc, hd, hk, hp, hn⟩ := hm
  have hes : es.size ≤ sizeLine := by
    have e1 := hp.length
    have e2 : es.toList.length = es.size := by simp
    omega
  unfold dictPut
  refine wpAny_bind (wpAny_dictFind_of hkey ho hd hk ?_)
  have hidx : (es.findIdx? fun e => knd.is k e.key) = kvs.findIdx? fun kv => decide (kv.1 = k) := by
    rw [← hp.findIdx k]; obtain ⟨l⟩ := es; simp
  cases hi : es.findIdx? fun e => knd.is k e.key with
  | some i =>
    refine wpAny_updateDict ho hd (hQ _ ⟨_, _, ep, Heap.get?_update_self _ ho (Obj.isFreed_of_dict (Obj.data_mapDict hd _)),
      hc.mapDict _, Obj.data_mapDict hd _, hk.modify _ _, ?_, ?_⟩ (Heap.SameBut.update ..))
    · rw [stored, if_pos (any_of_findIdx_some (hidx ▸ hi))]
      have hl : (es.toList.findIdx? fun e => knd.is k e.key) = some i := by rw [← hi]; obtain ⟨l⟩ := es; simp
      have := hp.modify hn hl v
      obtain ⟨l⟩ := es
      simpa using this
    · rw [stored, if_pos (any_of_findIdx_some (hidx ▸ hi)), keys_map_store]; exact hn
  | none =>
    have hnot : k ∉ kvs.map (·.1) := not_mem_of_findIdx_none (hidx ▸ hi)
    have hany : ¬ (kvs.any fun kv => decide (kv.1 = k)) = true := by
      rw [List.any_eq_true]; rintro ⟨kv, hkv, he⟩
      exact hnot (List.mem_map.mpr ⟨kv, hkv, of_decide_eq_true he⟩)
    refine wpAny_updateDictKeys (hz := hes) ho hd (hQ _ ⟨_, _, ep + 1, Heap.get?_update_self _ ho (Obj.isFreed_of_dict (Obj.data_mapDictKeys hd _)),
      hc.mapDictKeys _, Obj.data_mapDictKeys hd _, hk.push hkey _, ?_, ?_⟩ (Heap.SameBut.update ..))
    · rw [stored, if_neg hany]
      have := hp.append hkey (knd.hash k) v
      obtain ⟨l⟩ := es
      simpa using this
    · rw [stored, if_neg hany, List.map_append, List.nodup_append]
      refine ⟨hn, by simp, ?_⟩
      intro a ha b hb
      simp only [List.map_cons, List.map_nil, List.mem_singleton] at hb
      subst hb
      exact fun e => hnot (e ▸ ha)
/-- a walk that does nothing -/
theorem wpAny_forIn_arr {es : Array DictEntry} {Q : PUnit → Shared → Prop} (f : DictEntry → PUnit → Sem (ForInStep PUnit)) (hf : ∀ e ∈ es, f e PUnit.unit = pure (ForInStep.yield PUnit.unit)) (h : Q PUnit.unit s) : wpAny (model prog w) A (forIn es PUnit.unit f) Q E s := by
  rw [← Array.forIn_toList]
  have hl : ∀ e ∈ es.toList, f e PUnit.unit = pure (ForInStep.yield PUnit.unit) := fun e he => hf e (Array.mem_toList_iff.mp he)
  generalize es.toList = l at hl
  induction l with
  | nil => rw [List.forIn_nil]; exact wpAny_pure h
  | cons e r ih =>
    rw [List.forIn_cons, hl e List.mem_cons_self]
    exact wpAny_bind (wpAny_pure (ih fun x hx => hl x (List.mem_cons_of_mem _ hx)))
/-- keys that are no objects -/
def NoRefK (knd : KeyKind prog w K) : Prop := ∀ (k : K) (a : Addr), knd.is k (.ref a) = false
theorem i3_merged_key {kvs : List (K × Value)} : ∀ {more : List (K × Value)} {p : K × Value}, p ∈ merged kvs more → p.1 ∈ kvs.map (·.1) ∨ ∃ q ∈ more, q.1 = p.1 := by
  intro more
  induction more generalizing kvs with
  | nil => exact fun h => .inl (List.mem_map_of_mem h)
  | cons kv r ih =>
    intro p h
    have h' : p ∈ merged (stored kvs kv.1 kv.2) r := h
    rcases ih h' with h1 | ⟨q, hq, e⟩
    · unfold stored at h1
      split at h1
      · rw [keys_map_store] at h1
        exact .inl h1
      · rw [List.map_append, List.mem_append] at h1
        rcases h1 with h1 | h1
        · exact .inl h1
        · simp only [List.map_cons, List.map_nil, List.mem_singleton] at h1
          exact .inr ⟨kv, List.mem_cons_self, h1.symm⟩
    · exact .inr ⟨q, List.mem_cons_of_mem _ hq, e⟩
/-- the dict at o merged into the one at d, as a display does -/
theorem i3_merge {d o : Addr} {kvs more : List (K × Value)} {u : Bool} {Q : Unit → Shared → Prop} (hnr : NoRefK knd) (hdo : d ≠ o) (hoS : (o == sysModules) = false)
    (hd : s.heap.DictOf knd d kvs) (ho : s.heap.DictOf knd o more) (hu : u = true → ∀ p ∈ more, p.1 ∉ kvs.map (·.1))
    (hQ : ∀ h', h'.DictOf knd d (merged kvs more) → h'.DictOf knd o more → Heap.SameBut d s.heap h' → Q () { s with heap := h' })
    (hsz : kvs.length + more.length ≤ sizeLine) :
    wpAny (model prog w) A (mergeMapping d (.ref o) u) Q E s := by
  obtain ⟨od, esd, epd, hod, hcd, hdd, hkd, hpd, hnd⟩ := id hd
  obtain ⟨oo, eso, epo, hoo, hco, hdo', hko, hpo, hno⟩ := id ho
  have hlen : more.length = eso.size := by rw [← hpo.length]; simp
  unfold mergeMapping
  refine wpAny_bind (wpAny_isInstance ho.typeIs isSubtype_dict_dict ?_)
  rw [if_pos rfl]
  refine wpAny_bind (wpAny_specialOf ho.typeIs PySem.F.slot_dict_iter.lookup (wpAny_bind (wpAny_pure ?_)))
  dsimp only
  rw [show ((some (Value.builtin "dict.__iter__") : Option Value) == some (Value.builtin "dict.__iter__")) = true from beq_self_eq_true _]
  dsimp only
  rw [if_neg (by rw [hoS]; exact Bool.false_ne_true)]
  refine wpAny_bind (wpAny_dictEntries hod hdd ?_)
  have loop : ∀ (s0 : Shared), s0 = s → wpAny (model prog w) A (do
      let l ← dictEntries o
      have size : Nat := l.size
      let epoch ← dictEpoch o
      forIn (List.range size) PUnit.unit fun i (_ : PUnit) => (do
          let l' ← dictEntries o
          match l'[i]? with
            | some e => do
              holding [e.key, e.val]
                  (have __do_jp := fun (_ : Unit) => dictPut d e.hash e.key e.val;
                  if u = true then do
                    let __do_lift ← dictFind d e.key e.hash
                    if __do_lift.isSome = true then do
                        rule "dict.merge.duplicate-key"
                        let __do_lift ← newExc (Value.type "KeyError") [e.key]
                        let __r ← raiseNew __do_lift
                        __do_jp __r
                      else __do_jp ()
                  else __do_jp ())
              let ep' ← dictEpoch o
              if (ep' != epoch) = true then do
                  (unsupported "dict.changed-during-merge" : Sem PUnit)
                  pure (ForInStep.yield PUnit.unit)
                else pure (ForInStep.yield PUnit.unit)
            | _ => do
              (unsupported "dict.changed-during-merge" : Sem PUnit)
              pure (ForInStep.yield PUnit.unit) : Sem (ForInStep PUnit))
      pure ()) Q E s0 := by
    intro s0 e0
    subst e0
    refine wpAny_bind (wpAny_dictEntries hoo hdo' ?_)
    refine wpAny_bind (wpAny_dictEpoch hoo hdo' ?_)
    refine wpAny_bind ?_
    rw [List.range_eq_range']
    refine wpAny_forIn_list _
      (fun rest _ s' => ∃ h' i, s' = { s0 with heap := h' } ∧ rest = List.range' i (eso.size - i) ∧ i ≤ eso.size ∧ h'.DictOf knd d (merged kvs (more.take i)) ∧ h'.get? o = some oo ∧ Heap.SameBut d s0.heap h')
      _ ?_ ?_ _ _ ⟨s0.heap, 0, rfl, by simp, Nat.zero_le _, by simpa [merged] using hd, hoo, Heap.SameBut.refl _ _⟩
    · rintro x rest b s' ⟨h', i, rfl, hr, hi, hd', hoo', hs'⟩
      have hlt : i < eso.size := by
        rcases Nat.lt_or_ge i eso.size with h | h
        · exact h
        · rw [Nat.sub_eq_zero_of_le h] at hr; simp at hr
      obtain ⟨rfl, hrest⟩ : x = i ∧ rest = List.range' (i + 1) (eso.size - (i + 1)) := by
        have e : eso.size - i = (eso.size - (i + 1)) + 1 := by omega
        rw [e, List.range'_succ] at hr
        injection hr with h1 h2
        exact ⟨h1, h2⟩
      refine wpAny_bind (wpAny_dictEntries hoo' hdo' ?_)
      rw [Array.getElem?_eq_getElem hlt]
      obtain ⟨kv, hkv⟩ : ∃ kv, more[x]? = some kv := ⟨more[x]'(by rw [hlen]; exact hlt), List.getElem?_eq_getElem _⟩
      obtain ⟨k, v⟩ := kv
      obtain ⟨hkey, hval⟩ := hpo.get? (e := eso[x]) (by simp [hlt]) hkv
      obtain ⟨k', hkey', hhash⟩ := hko eso[x] (Array.getElem_mem hlt)
      obtain rfl : k' = k := knd.inj _ _ _ hkey' hkey
      dsimp only
      have hmx : (merged kvs (more.take x)).length ≤ sizeLine := by
        have e1 := merged_length_le kvs (more.take x)
        have e2 : (more.take x).length ≤ more.length := by rw [List.length_take]; omega
        omega
      rw [hhash, hval]
      refine wpAny_bind (wpAny_holding ?_)
      cases u with
      | false =>
        rw [if_neg (by decide)]
        refine i3_dictPut hkey hd' hmx fun h'' hd'' hs'' => ?_
        have hoo'' : h''.get? o = some oo := (hs''.2 o (Ne.symm hdo)).trans hoo'
        refine wpAny_bind (wpAny_dictEpoch hoo'' hdo' ?_)
        rw [if_neg (by simp)]
        exact wpAny_pure ⟨h'', x + 1, rfl, hrest, hlt, by rw [merged_take_succ kvs more x (k', v) hkv]; exact hd'', hoo'', hs'.trans hs''⟩
      | true =>
        rw [if_pos rfl]
        obtain ⟨o3, es3, ep3, ho3, hc3, hd3, hk3, hp3, hn3⟩ := id hd'
        refine wpAny_bind (wpAny_dictFind_of hkey ho3 hd3 hk3 ?_)
        have hidx : (es3.findIdx? fun e => knd.is k' e.key) = (merged kvs (more.take x)).findIdx? fun kv => decide (kv.1 = k') := by
          rw [← hp3.findIdx k']; obtain ⟨l⟩ := es3; simp
        have hfr : (merged kvs (more.take x)).findIdx? (fun kv => decide (kv.1 = k')) = none := by
          rw [List.findIdx?_eq_none_iff]
          intro p hp
          refine decide_eq_false fun e => ?_
          rcases i3_merged_key hp with h | ⟨q, hq, e2⟩
          · exact hu rfl (k', v) (List.mem_of_getElem? hkv) (e ▸ h)
          · obtain ⟨j, hj⟩ := List.getElem?_of_mem hq
            rw [List.getElem?_take] at hj
            split at hj
            · rename_i hjx
              have h1 : (more.map (·.1))[j]? = some k' := by rw [List.getElem?_map, hj]; simp [e2, e]
              have h2 : (more.map (·.1))[x]? = some k' := by rw [List.getElem?_map, hkv]; rfl
              have := (List.getElem?_inj (by rw [List.length_map, hlen]; omega) hno).mp (h1.trans h2.symm)
              omega
            · cases hj
        rw [hidx, hfr]
        rw [if_neg (by decide)]
        refine i3_dictPut hkey hd' hmx fun h'' hd'' hs'' => ?_
        have hoo'' : h''.get? o = some oo := (hs''.2 o (Ne.symm hdo)).trans hoo'
        refine wpAny_bind (wpAny_dictEpoch hoo'' hdo' ?_)
        rw [if_neg (by simp)]
        exact wpAny_pure ⟨h'', x + 1, rfl, hrest, hlt, by rw [merged_take_succ kvs more x (k', v) hkv]; exact hd'', hoo'', hs'.trans hs''⟩
    · rintro b s' ⟨h', i, rfl, hr, hi, hd', hoo', hs'⟩
      have hin : i = eso.size := by
        rcases Nat.lt_or_ge i eso.size with h | h
        · have e : eso.size - i = (eso.size - (i + 1)) + 1 := by omega
          rw [e, List.range'_succ] at hr; exact nomatch hr
        · exact Nat.le_antisymm hi h
      refine wpAny_pure (hQ h' ?_ ⟨oo, eso, epo, hoo', hco, hdo', hko, hpo, hno⟩ hs')
      rw [hin, ← hlen, List.take_length] at hd'; exact hd'
  by_cases hemp : esd.isEmpty = true
  · rw [if_pos hemp]
    refine wpAny_bind (wpAny_dictEntries hoo hdo' ?_)
    refine wpAny_bind ?_
    refine wpAny_forIn_arr _ (fun e he => ?_) (loop s rfl)
    obtain ⟨k, hk, _⟩ := hko e he
    cases hek : e.key with
    | ref a => rw [hek, hnr] at hk; cases hk
    | _ => rfl
  · rw [if_neg hemp]
    exact loop s rfl
/-- m merged into d, within a display -/
def i3_mrg (d : Addr) (m : Value) : Sem Unit := (((holding [.ref d, m] (mergeMapping d m false)).onRaise fun x => do let _ ← holding [.ref d, m, x] (runValue (.builtin "proto.let_go" {}))).tryCatch fun e => do
        if ← isInstance e (.type "AttributeError") then
          rule "dict.display.not-a-mapping"; raiseError "TypeError" s!"'{← typeNameOf m}' object is not a mapping"
        throw e).onRaise fun x => do let _ ← holding [.ref d, x] (runValue (.builtin "proto.let_go" {}))
theorem i3_disp2 (a b : Sem Value) : dictDisplay [(none, a), (none, b)] = (do
    let d ← alloc { cls := .type "dict", data := .dict #[] }
    let m ← holding [.ref d] a
    i3_mrg d m
    let m2 ← holding [.ref d] b
    i3_mrg d m2
    pure (.ref d)) := by
  unfold dictDisplay
  simp only [List.forIn_cons, List.forIn_nil, List.isEmpty_nil, if_true, pure_bind, bind_assoc]
  rfl
theorem i3_disp1 (a k v : Sem Value) : dictDisplay [(none, a), (some k, v)] = (do
    let d ← alloc { cls := .type "dict", data := .dict #[] }
    let m ← holding [.ref d] a
    i3_mrg d m
    let sub ← holding [.ref d] (subDict [(k, v)])
    (holding [.ref d, .ref sub] (mergeMapping d (.ref sub) false)).onRaise fun x => do let _ ← holding [.ref d, x] (runValue (.builtin "proto.let_go" {}))
    pure (.ref d)) := by
  have h17 : ([(k, v)].length == 17) = false := rfl
  unfold dictDisplay
  simp only [h17, List.forIn_cons, List.forIn_nil, List.isEmpty_nil, if_true, pure_bind, bind_assoc, List.nil_append, List.isEmpty_cons, Bool.false_eq_true, if_false]
  rfl
end
end PySem
namespace I3
open PySem PySem.Spec PyProof.Rows L2
theorem mix_noref {P : Program} {w : World} : NoRefK (mixKind P w) := fun k a => by cases k <;> rfl
section
variable {X : Cx} {pos : Pos} {A : Around} {E : Value → Shared → Prop} {pins : List (Addr × Obj)} {σ : L2.St} {H : Hp} {s : Shared}
/-- the dict at a merged into the one at p -/
theorem d_merge {p a : Addr} {kvs ls : List (Key × V)} {u : Bool} {Q : Unit → Shared → Prop} (I : Inv X pins σ H s) (hp : H p = some (.dK kvs)) (ha : Rd H a (.dK ls)) (hne : p ≠ a) (hu : u = true → kvs = []) (hz : kvs.length + ls.length ≤ sizeLine)
    (h : ∀ s', Inv X pins σ (upd H p (.dK (mergeK kvs ls))) s' → Q () s') : wpAny (model X.prog X.w) A (mergeMapping p (.ref a) u) Q E s := by
  obtain ⟨z1, hd1, vs, r1, dd1⟩ := dk_of I.hok hp
  obtain ⟨z2, hd2, ws, r2, dd2⟩ := dk_rd I.hok ha
  have l1 : vs.length = kvs.length := r1.length.symm
  have l2 : ws.length = ls.length := r2.length.symm
  refine i3_merge mix_noref hne hd2 dd1 dd2 (fun e q hq => ?_) (fun h' d1 d2 hs => h _ ?_) (by omega)
  · have := hu e
    subst this
    cases r1
    simp
  · have hl : (mergeK kvs ls).length ≤ sizeLine := by have := length_mergeK ls kvs; omega
    have he : ∃ q, h'.get? p = some q := let ⟨q, _, _, hq, _⟩ := d1; ⟨q, hq⟩
    exact d_write I (by rw [hp]; exact True.intro) hs he (dk_new hl hd1 (r2.merge r1) d1)
/-- {**a, **b}; the new dict stands at p while a and b are evaluated -/
def tDD (t1 t2 : TE) : TE := fun σ H Q => ∀ p, H p = none → t1 σ (upd H p (.dK [])) fun x H1 => H1 p = some (.dK []) ∧ ∃ a ks, x = .ref a ∧ Rd H1 a (.dK ks) ∧ p ≠ a ∧ ks.length ≤ sizeLine ∧
  t2 σ (upd H1 p (.dK (mergeK [] ks))) fun y H2 => H2 p = some (.dK (mergeK [] ks)) ∧ ∃ b ls, y = .ref b ∧ Rd H2 b (.dK ls) ∧ p ≠ b ∧ (mergeK [] ks).length + ls.length ≤ sizeLine ∧ Q (.ref p) (upd H2 p (.dK (mergeK (mergeK [] ks) ls)))
theorem pe_dd {e1 e2 : Expr} {t1 t2 : TE} (h1 : PE X e1 t1) (h2 : PE X e2 t2) : PE X (.Dict [none, none] [e1, e2] pos) (tDD t1 t2) := by
  refine ⟨fun pins s σ H Q I q => ?_⟩
  have hn := I.hok.fresh (Nat.le_refl s.heap.objs.size)
  have I1 := I.laid (a := s.heap.objs.size) (o := .dK []) (h' := s.heap.push { cls := .type "dict", data := .dict #[] }) (t' := s.toks) (fun _ _ q => Heap.get?_push_of_some _ q) (Nat.le_refl _) (dk_empty s.heap I.big)
  rw [arm_eval_Dict]
  refine wpAny_bind (wpAny_standAt ?_)
  show wpAny _ _ (dictDisplay [(none, do let x ← eval e1 X.env; standAt pos; pure x), (none, do let x ← eval e2 X.env; standAt pos; pure x)]) _ _ s
  rw [i3_disp2]
  refine wpAny_bind (wpAny_alloc ?_)
  refine wpAny_bind (wpAny_holding (wpAny_bind (thn (h1.run pins _ σ _ _ I1 (q _ hn)) fun v s2 ⟨x, H1, I2, rx, hp, a, ks, ex, ha, hne, hz, q2⟩ => ?_)))
  subst ex
  obtain rfl : v = Value.ref a := rx
  refine wpAny_bind (wpAny_standAt (wpAny_pure ?_))
  have mrg : ∀ {H : Hp} {s : Shared} {p a : Addr} {kvs ls : List (Key × V)} {Q : Unit → Shared → Prop} (I : Inv X pins σ H s) (hp : H p = some (.dK kvs)) (ha : Rd H a (.dK ls)) (hne : p ≠ a) (hz : kvs.length + ls.length ≤ sizeLine)
      (h : ∀ s', Inv X pins σ (upd H p (.dK (mergeK kvs ls))) s' → Q () s'), wpAny (model X.prog X.w) X.A (i3_mrg p (.ref a)) Q X.xe s := fun I hp ha hne hz h => by
    unfold i3_mrg
    exact wpAny_onRaise (wpAny_tryCatch (wpAny_onRaise (wpAny_holding (d_merge I hp ha hne (fun e => by cases e) hz h))))
  refine wpAny_bind (mrg I2 hp ha hne (by simpa using hz) fun s3 I3 => ?_)
  refine wpAny_bind (wpAny_holding (wpAny_bind (thn (h2.run pins _ σ _ _ I3 q2) fun v s4 ⟨y, H2, I4, ry, hp2, b, ls, ey, hb, hne2, hz2, q3⟩ => ?_)))
  subst ey
  obtain rfl : v = Value.ref b := ry
  refine wpAny_bind (wpAny_standAt (wpAny_pure ?_))
  refine wpAny_bind (mrg I4 hp2 hb hne2 hz2 fun s5 I5 => ?_)
  exact wpAny_pure ⟨.ref s.heap.objs.size, _, I5, rfl, q3⟩
/-- {**a, k: v} -/
def tDK (t1 tk tv : TE) : TE := fun σ H Q => ∀ p, H p = none → t1 σ (upd H p (.dK [])) fun x H1 => H1 p = some (.dK []) ∧ ∃ a ks, x = .ref a ∧ Rd H1 a (.dK ks) ∧ p ≠ a ∧ ks.length ≤ sizeLine ∧
  ∀ r, upd H1 p (.dK (mergeK [] ks)) r = none → tk σ (upd (upd H1 p (.dK (mergeK [] ks))) r (.dK [])) fun y H2 => tv σ H2 fun z H3 => H3 p = some (.dK (mergeK [] ks)) ∧ H3 r = some (.dK []) ∧ ∃ k : Key, y = kV k ∧ (mergeK [] ks).length + 1 ≤ sizeLine ∧
    Q (.ref p) (upd (upd H3 r (.dK (putK [] k z))) p (.dK (mergeK (mergeK [] ks) (putK [] k z))))
theorem pe_dk {e1 k1 v1 : Expr} {t1 tk tv : TE} (h1 : PE X e1 t1) (hk : PE X k1 tk) (hv : PE X v1 tv) : PE X (.Dict [none, some k1] [e1, v1] pos) (tDK t1 tk tv) := by
  refine ⟨fun pins s σ H Q I q => ?_⟩
  have hn := I.hok.fresh (Nat.le_refl s.heap.objs.size)
  have I1 := I.laid (a := s.heap.objs.size) (o := .dK []) (h' := s.heap.push { cls := .type "dict", data := .dict #[] }) (t' := s.toks) (fun _ _ q => Heap.get?_push_of_some _ q) (Nat.le_refl _) (dk_empty s.heap I.big)
  rw [arm_eval_Dict]
  refine wpAny_bind (wpAny_standAt ?_)
  show wpAny _ _ (dictDisplay [(none, do let x ← eval e1 X.env; standAt pos; pure x), (some (eval k1 X.env), do let x ← eval v1 X.env; standAt pos; pure x)]) _ _ s
  rw [i3_disp1]
  refine wpAny_bind (wpAny_alloc ?_)
  refine wpAny_bind (wpAny_holding (wpAny_bind (thn (h1.run pins _ σ _ _ I1 (q _ hn)) fun v s2 ⟨x, H1, I2, rx, hp, a, ks, ex, ha, hne, hz, q2⟩ => ?_)))
  subst ex
  obtain rfl : v = Value.ref a := rx
  refine wpAny_bind (wpAny_standAt (wpAny_pure ?_))
  refine wpAny_bind (wpAny_onRaise (wpAny_tryCatch (wpAny_onRaise (wpAny_holding (d_merge I2 hp ha hne (fun e => by cases e) (by simpa using hz) fun s3 I3 => ?_)))))
  have hn3 := I3.hok.fresh (Nat.le_refl s3.heap.objs.size)
  have I4 := I3.laid (a := s3.heap.objs.size) (o := .dK []) (h' := s3.heap.push { cls := .type "dict", data := .dict #[] }) (t' := s3.toks) (fun _ _ q => Heap.get?_push_of_some _ q) (Nat.le_refl _) (dk_empty s3.heap I3.big)
  refine wpAny_bind (wpAny_holding ?_)
  have h15 : ([(eval k1 X.env, do let x ← eval v1 X.env; standAt pos; pure x)] : List (Sem Value × Sem Value)).length ≤ 15 := by show 1 ≤ 15; decide
  refine wpAny_subDict (knd := mixKind X.prog X.w) h15 ?_
  show wpAny _ _ (evalPairs (pairTrees [some k1] [v1] X.env pos)) _ _ _
  have hp1 : PPs X pos [some k1] [v1] [(tk, tv)] := pps_cons hk hv pps_nil
  have q3 := q2 _ hn3
  refine thn (hp1.run pins _ σ _ (fun ps H3 => match ps with
    | [(y, z)] => H3 s.heap.objs.size = some (.dK (mergeK [] ks)) ∧ H3 s3.heap.objs.size = some (.dK []) ∧ ∃ k : Key, y = kV k ∧ (mergeK [] ks).length + 1 ≤ sizeLine ∧
      Q (.ref s.heap.objs.size) (upd (upd H3 s3.heap.objs.size (.dK (putK [] k z))) s.heap.objs.size (.dK (mergeK (mergeK [] ks) (putK [] k z))))
    | _ => False) I4 q3) fun ws s4 ⟨ps, H3, I5, rel, qq⟩ => ?_
  rcases ps with _ | ⟨⟨y, z⟩, _ | ⟨_, _⟩⟩ <;> (first | exact qq.elim | skip)
  obtain ⟨hp3, hr3, k, ek, hz3, q4⟩ := qq
  subst ek
  obtain ⟨rs, cr, rk⟩ := carries_of (P := X.prog) (w := X.w) (kvs := [(k, z)]) rel
  obtain ⟨z9, hd, vs0, r0, dd⟩ := dk_of I5.hok hr3
  cases r0
  have hl1 : rs.length = 1 := rk.length.symm
  refine ⟨rs, cr, dd, fun h' dd' hs => ?_⟩
  have hl9 : (putK [] k z).length ≤ sizeLine := by show 1 ≤ sizeLine; decide
  have he : ∃ q, h'.get? s3.heap.objs.size = some q := let ⟨q, _, _, hq, _⟩ := dd'; ⟨q, hq⟩
  have hne3 : s.heap.objs.size ≠ s3.heap.objs.size := fun e => by
    have hb : upd H1 s.heap.objs.size (.dK (mergeK [] ks)) s.heap.objs.size = none := by
      have := hn3
      rw [← e] at this
      exact this
    rw [upd_same] at hb
    cases hb
  have I6 : Inv X pins σ (upd H3 s3.heap.objs.size (.dK (putK [] k z))) { s4 with heap := h', toks := s4.toks + ws.length } := d_write (t' := s4.toks + ws.length) I5 (by rw [hr3]; exact True.intro) hs he (dk_new hl9 hd (rk.merge .nil) dd')
  refine wpAny_bind (wpAny_onRaise (wpAny_holding (d_merge I6 (by rw [upd_ne hne3]; exact hp3) (.inl upd_same) hne3 (fun e => by cases e) (by show _ + 1 ≤ _; exact hz3) fun s7 I7 => ?_)))
  exact wpAny_pure ⟨.ref s.heap.objs.size, _, I7, rfl, q4⟩
end
end I3

set_option Elab.async false
set_option linter.all false
set_option autoImplicit false
set_option maxRecDepth 100000
set_option maxHeartbeats 1000000
/-! I3a: pure data, what stands for it in an abstract heap, the state of a run. -/
namespace I3
open PySem PySem.Spec PyProof.Rows L2

/-- pure data: trees; gl: a global object by its name; cell: a changeable object of the store -/
inductive D where
  | non | bl (b : Bool) | int (i : Int) | str (x : Str)
  | tup (xs : List D) | lst (xs : List D) | dic (kvs : List (Key × D))
  | ins (c : Str) (fs : List (Str × D))
  | gl (x : Str) | cell (i : Nat)
  /-- a caught exception: where it stands, its dict, its class, its attributes -/
  | exn (a dx : Nat) (c : Str) (fs : List (Str × D))
  deriving Inhabited

/-- locked? -/
def isFrz : HO → Bool
  | .frz _ _ => true
  | _ => false
/-- what was to be read is to be read -/
structure FExt (F F' : Hp) : Prop where
  rd : ∀ a u, isFrz u = false → Rd F a u → Rd F' a u
  /-- instances stand as they are -/
  ins : ∀ a c dx us, F a = some (.ins c dx us) → F' a = some (.ins c dx us)
  xds : ∀ a us, F a = some (.xd us) → F' a = some (.xd us)
def AExt (α α' : List Addr) : Prop := ∀ (i : Nat) (a : Addr), α[i]? = some a → α'[i]? = some a
theorem FExt.refl (F : Hp) : FExt F F := ⟨fun _ _ _ h => h, fun _ _ _ _ h => h, fun _ _ h => h⟩
theorem FExt.trans {F G J : Hp} (a : FExt F G) (b : FExt G J) : FExt F J := ⟨fun x u n h => b.rd x u n (a.rd x u n h), fun x c d u h => b.ins x c d u (a.ins x c d u h), fun x u h => b.xds x u (a.xds x u h)⟩
theorem AExt.refl (α : List Addr) : AExt α α := fun _ _ h => h
theorem AExt.trans {α β δ : List Addr} (a : AExt α β) (b : AExt β δ) : AExt α δ := fun i x h => b i x (a i x h)
theorem AExt.snoc (α : List Addr) (a : Addr) : AExt α (α ++ [a]) := fun i x h => by
  have hl : i < α.length := (List.getElem?_eq_some_iff.mp h).1
  rw [List.getElem?_append_left hl]
  exact h
theorem FExt.new {F : Hp} {p : Addr} {o : HO} (h : F p = none) : FExt F (upd F p o) := ⟨fun a u _ r => by
  rcases r with r | ⟨ob, r⟩
  · exact .inl (by rw [upd_ne (ne_of_none r h)]; exact r)
  · exact .inr ⟨ob, by rw [upd_ne (ne_of_none r h)]; exact r⟩, fun a c d u r => by rw [upd_ne (ne_of_none r h)]; exact r, fun a u r => by rw [upd_ne (ne_of_none r h)]; exact r⟩
theorem rd_sqL {K : PySem.W.Frag} {F F' : Hp} {a : Addr} {xs : List V} (e : FExt F F') (h : SqL K F a xs) : SqL K F' a xs := h.elim (fun h => .inl (e.rd _ _ rfl h)) .inr
theorem rd_sqT {K : PySem.W.Frag} {F F' : Hp} {a : Addr} {xs : List V} (e : FExt F F') (h : SqT K F a xs) : SqT K F' a xs := h.elim (fun h => .inl (e.rd _ _ rfl h)) .inr

mutual
/-- the value v, over the frozen heap F and the cells' places α, stands for the datum -/
def Rep (K : PySem.W.Frag) (α : List Addr) (F : Hp) : D → V → Prop
  | .non, v => v = .non
  | .bl b, v => v = .bl b
  | .int i, v => v = .int i
  | .str x, v => v = .str x
  | .tup ds, v => ∃ a vs, v = .ref a ∧ SqT K F a vs ∧ RepL K α F ds vs
  | .lst ds, v => ∃ a vs, v = .ref a ∧ SqL K F a vs ∧ RepL K α F ds vs
  | .dic kvs, v => ∃ a us, v = .ref a ∧ Rd F a (.dK us) ∧ RepK K α F kvs us
  | .ins c fs, v => ∃ a dx us, v = .ref a ∧ F a = some (.ins (He.ga K c) dx us) ∧ RepF K α F fs us
  | .gl x, v => v = .ref (He.ga K x)
  | .cell i, v => ∃ a, α[i]? = some a ∧ v = .ref a
  | .exn a dx _ fs, v => ∃ us, v = .ref a ∧ F dx = some (.xd us) ∧ RepF K α F fs us
def RepL (K : PySem.W.Frag) (α : List Addr) (F : Hp) : List D → List V → Prop
  | [], vs => vs = []
  | d :: ds, vs => ∃ v r, vs = v :: r ∧ Rep K α F d v ∧ RepL K α F ds r
def RepK (K : PySem.W.Frag) (α : List Addr) (F : Hp) : List (Key × D) → List (Key × V) → Prop
  | [], vs => vs = []
  | (k, d) :: ds, vs => ∃ v r, vs = (k, v) :: r ∧ Rep K α F d v ∧ RepK K α F ds r
def RepF (K : PySem.W.Frag) (α : List Addr) (F : Hp) : List (Str × D) → List (Str × V) → Prop
  | [], vs => vs = []
  | (k, d) :: ds, vs => ∃ v r, vs = (k, v) :: r ∧ Rep K α F d v ∧ RepF K α F ds r
end

section
variable {K : PySem.W.Frag} {α α' : List Addr} {F F' : Hp}
mutual
theorem Rep.mono (ha : AExt α α') (hf : FExt F F') : ∀ {d : D} {v : V}, Rep K α F d v → Rep K α' F' d v
  | .non, _, h => h
  | .bl _, _, h => h
  | .int _, _, h => h
  | .str _, _, h => h
  | .tup ds, v, h => by
    unfold Rep at h ⊢
    obtain ⟨a, vs, e, s, r⟩ := h
    exact ⟨a, vs, e, rd_sqT hf s, RepL.mono ha hf r⟩
  | .lst ds, v, h => by
    unfold Rep at h ⊢
    obtain ⟨a, vs, e, s, r⟩ := h
    exact ⟨a, vs, e, rd_sqL hf s, RepL.mono ha hf r⟩
  | .dic kvs, v, h => by
    unfold Rep at h ⊢
    obtain ⟨a, vs, e, s, r⟩ := h
    exact ⟨a, vs, e, hf.rd _ _ rfl s, RepK.mono ha hf r⟩
  | .ins c fs, v, h => by
    unfold Rep at h ⊢
    obtain ⟨a, dx, vs, e, s, r⟩ := h
    exact ⟨a, dx, vs, e, hf.ins _ _ _ _ s, RepF.mono ha hf r⟩
  | .gl _, _, h => h
  | .cell i, v, h => by
    unfold Rep at h ⊢
    obtain ⟨a, e, r⟩ := h
    exact ⟨a, ha _ _ e, r⟩
  | .exn a dx c fs, v, h => by
    unfold Rep at h ⊢
    obtain ⟨us, e, s, r⟩ := h
    exact ⟨us, e, hf.xds _ _ s, RepF.mono ha hf r⟩
theorem RepL.mono (ha : AExt α α') (hf : FExt F F') : ∀ {ds : List D} {vs : List V}, RepL K α F ds vs → RepL K α' F' ds vs
  | [], _, h => h
  | d :: ds, vs, h => by
    unfold RepL at h ⊢
    obtain ⟨v, r, e, h1, h2⟩ := h
    exact ⟨v, r, e, Rep.mono ha hf h1, RepL.mono ha hf h2⟩
theorem RepK.mono (ha : AExt α α') (hf : FExt F F') : ∀ {ds : List (Key × D)} {vs : List (Key × V)}, RepK K α F ds vs → RepK K α' F' ds vs
  | [], _, h => h
  | (k, d) :: ds, vs, h => by
    unfold RepK at h ⊢
    obtain ⟨v, r, e, h1, h2⟩ := h
    exact ⟨v, r, e, Rep.mono ha hf h1, RepK.mono ha hf h2⟩
theorem RepF.mono (ha : AExt α α') (hf : FExt F F') : ∀ {ds : List (Str × D)} {vs : List (Str × V)}, RepF K α F ds vs → RepF K α' F' ds vs
  | [], _, h => h
  | (k, d) :: ds, vs, h => by
    unfold RepF at h ⊢
    obtain ⟨v, r, e, h1, h2⟩ := h
    exact ⟨v, r, e, Rep.mono ha hf h1, RepF.mono ha hf h2⟩
end
theorem RepL.nil : RepL K α F [] [] := by unfold RepL; rfl
theorem RepL.cons {d : D} {v : V} {ds : List D} {vs : List V} (h : Rep K α F d v) (t : RepL K α F ds vs) : RepL K α F (d :: ds) (v :: vs) := by
  unfold RepL
  exact ⟨v, vs, rfl, h, t⟩
theorem RepL.length : ∀ {ds : List D} {vs : List V}, RepL K α F ds vs → ds.length = vs.length
  | [], vs, h => by unfold RepL at h; rw [h]; rfl
  | d :: ds, vs, h => by
    unfold RepL at h
    obtain ⟨v, r, e, _, h2⟩ := h
    rw [e, List.length_cons, List.length_cons, RepL.length h2]
theorem RepL.get : ∀ {ds : List D} {vs : List V} {i : Nat} {d : D}, RepL K α F ds vs → ds[i]? = some d → ∃ v, vs[i]? = some v ∧ Rep K α F d v
  | [], _, _, _, _, e => by simp at e
  | d :: ds, vs, 0, x, h, e => by
    unfold RepL at h
    obtain ⟨v, r, ev, h1, _⟩ := h
    simp at e
    subst e
    exact ⟨v, by rw [ev]; rfl, h1⟩
  | d :: ds, vs, i + 1, x, h, e => by
    unfold RepL at h
    obtain ⟨v, r, ev, _, h2⟩ := h
    obtain ⟨y, h3, h4⟩ := RepL.get (i := i) (d := x) h2 (by simpa using e)
    exact ⟨y, by rw [ev]; simpa using h3, h4⟩
theorem RepL.append : ∀ {ds es : List D} {vs us : List V}, RepL K α F ds vs → RepL K α F es us → RepL K α F (ds ++ es) (vs ++ us)
  | [], _, vs, _, h, t => by unfold RepL at h; rw [h]; exact t
  | d :: ds, es, vs, us, h, t => by
    unfold RepL at h
    obtain ⟨v, r, ev, h1, h2⟩ := h
    rw [ev]
    exact RepL.cons h1 (RepL.append h2 t)
theorem RepL.set : ∀ {ds : List D} {vs : List V} {d : D} {v : V} (i : Nat), RepL K α F ds vs → Rep K α F d v → RepL K α F (ds.set i d) (vs.set i v)
  | [], vs, _, _, _, h, _ => by unfold RepL at h; rw [h]; exact RepL.nil
  | d :: ds, vs, x, y, 0, h, t => by
    unfold RepL at h
    obtain ⟨v, r, ev, h1, h2⟩ := h
    rw [ev]
    exact RepL.cons t h2
  | d :: ds, vs, x, y, i + 1, h, t => by
    unfold RepL at h
    obtain ⟨v, r, ev, h1, h2⟩ := h
    rw [ev]
    exact RepL.cons h1 (RepL.set i h2 t)
theorem RepL.take : ∀ {ds : List D} {vs : List V} (n : Nat), RepL K α F ds vs → RepL K α F (ds.take n) (vs.take n)
  | _, _, 0, _ => by simp; exact RepL.nil
  | [], vs, n + 1, h => by unfold RepL at h; rw [h]; simp; exact RepL.nil
  | d :: ds, vs, n + 1, h => by
    unfold RepL at h
    obtain ⟨v, r, ev, h1, h2⟩ := h
    rw [ev]
    exact RepL.cons h1 (RepL.take n h2)
theorem RepL.drop : ∀ {ds : List D} {vs : List V} (n : Nat), RepL K α F ds vs → RepL K α F (ds.drop n) (vs.drop n)
  | _, _, 0, h => h
  | [], vs, n + 1, h => by unfold RepL at h; rw [h]; simp; exact RepL.nil
  | d :: ds, vs, n + 1, h => by
    unfold RepL at h
    obtain ⟨v, r, ev, h1, h2⟩ := h
    rw [ev]
    exact RepL.drop n h2
theorem RepF.lookup {f : Str} : ∀ {fs : List (Str × D)} {us : List (Str × V)}, RepF K α F fs us →
    (∀ d, fs.lookup f = some d → ∃ v, us.lookup f = some v ∧ Rep K α F d v) ∧ (fs.lookup f = none → us.lookup f = none)
  | [], us, h => by
    unfold RepF at h
    rw [h]
    exact ⟨fun d e => (by cases e), fun _ => rfl⟩
  | (k, d) :: fs, us, h => by
    unfold RepF at h
    obtain ⟨v, r, ev, h1, h2⟩ := h
    rw [ev]
    have ih := RepF.lookup (f := f) h2
    simp only [List.lookup_cons]
    cases e : f == k with
    | true => exact ⟨fun x ex => ⟨v, rfl, by cases ex; exact h1⟩, fun z => by cases z⟩
    | false => exact ih
theorem RepF.length : ∀ {fs : List (Str × D)} {us : List (Str × V)}, RepF K α F fs us → us.length = fs.length
  | [], us, h => by unfold RepF at h; rw [h]; rfl
  | (k, d) :: fs, us, h => by
    unfold RepF at h
    obtain ⟨v, r, ev, h1, h2⟩ := h
    rw [ev, List.length_cons, List.length_cons, RepF.length h2]
theorem RepF.put {f : Str} {d : D} {v : V} : ∀ {fs : List (Str × D)} {us : List (Str × V)}, RepF K α F fs us → Rep K α F d v →
    RepF K α F (fs.map (fun p => if p.1 = f then (f, d) else p)) (us.map (fun p => if p.1 = f then (f, v) else p))
  | [], us, h, _ => by unfold RepF at h; rw [h]; simp [RepF]
  | (k, x) :: fs, us, h, t => by
    unfold RepF at h
    obtain ⟨y, r, ev, h1, h2⟩ := h
    rw [ev]
    simp only [List.map_cons]
    have ih := RepF.put (f := f) h2 t
    by_cases e : k = f
    · simp only [if_pos e]
      unfold RepF
      exact ⟨v, _, rfl, t, ih⟩
    · simp only [if_neg e]
      unfold RepF
      exact ⟨y, _, rfl, h1, ih⟩
end
end I3

set_option Elab.async false
set_option linter.all false
set_option autoImplicit false
set_option maxRecDepth 100000
set_option maxHeartbeats 1000000
/-! I3b: the state of a run, outcomes, readings by a semantic function. -/
namespace I3
open PySem PySem.Spec PyProof.Rows L2

abbrev Store := List D
abbrev Env' := List (Option D)
/-- outcomes -/
inductive Res (β : Type) where
  | ok (a : β) (κ : Store)
  | exc (c : Str) (fs : List (Str × D)) (κ : Store)
  | bad
def Res.bind {β δ : Type} (r : Res β) (f : β → Store → Res δ) : Res δ := match r with
  | .ok a κ => f a κ
  | .exc c fs κ => .exc c fs κ
  | .bad => .bad
/-- where nothing that is raised may leave -/
def Res.nox {β : Type} (r : Res β) : Res β := match r with
  | .exc _ _ _ => .bad
  | r => r
@[simp] theorem Res.nox_ok {β : Type} (a : β) (κ : Store) : (Res.ok a κ).nox = .ok a κ := rfl
@[simp] theorem Res.nox_exc {β : Type} (c : Str) (fs : List (Str × D)) (κ : Store) : (Res.exc c fs κ : Res β).nox = .bad := rfl
@[simp] theorem Res.nox_bad {β : Type} : (Res.bad : Res β).nox = .bad := rfl
@[simp] theorem Res.bind_ok {β δ : Type} (a : β) (κ : Store) (f : β → Store → Res δ) : (Res.ok a κ).bind f = f a κ := rfl
@[simp] theorem Res.bind_exc {β δ : Type} (c : Str) (fs : List (Str × D)) (κ : Store) (f : β → Store → Res δ) : (Res.exc c fs κ : Res β).bind f = .exc c fs κ := rfl
@[simp] theorem Res.bind_bad {β δ : Type} (f : β → Store → Res δ) : (Res.bad : Res β).bind f = .bad := rfl

/-- a live cell -/
def live : D → Bool
  | .lst _ => true
  | .dic _ => true
  | .ins _ _ => true
  | _ => false
def CellAt (K : PySem.W.Frag) (α : List Addr) (F H : Hp) (a : Addr) : D → Prop
  | .lst ds => ∃ vs, H a = some (.lst vs) ∧ RepL K α F ds vs
  | .dic kvs => ∃ us, H a = some (.dK us) ∧ RepK K α F kvs us
  | .ins c fs => ∃ dx us, H a = some (.ins (He.ga K c) dx us) ∧ RepF K α F fs us
  | _ => True
/-- B: what stands and is nobody's business here -/
structure St (K : PySem.W.Frag) (B : Hp) (α : List Addr) (F : Hp) (κ : Store) (H : Hp) : Prop where
  prv : ∀ a o, B a = some o → H a = some o
  dis : ∀ a o, B a = some o → F a = none ∧ ∀ (i : Nat) (d : D), α[i]? = some a → κ[i]? = some d → live d = false
  sub : ∀ a o, F a = some o → H a = some o
  len : α.length = κ.length
  cel : ∀ (i : Nat) (a : Addr) (d : D), α[i]? = some a → κ[i]? = some d → CellAt K α F H a d
  out : ∀ (i : Nat) (a : Addr) (d : D), α[i]? = some a → κ[i]? = some d → live d = true → F a = none
  inj : ∀ (i j : Nat) (a : Addr) (d e : D), α[i]? = some a → α[j]? = some a → κ[i]? = some d → κ[j]? = some e → live d = true → live e = true → i = j

section
variable {K : PySem.W.Frag} {B : Hp} {α α' : List Addr} {F F' H : Hp} {κ : Store}
theorem CellAt.mono {a : Addr} {d : D} (ha : AExt α α') (hf : FExt F F') (h : CellAt K α F H a d) : CellAt K α' F' H a d := by
  cases d with
  | lst ds => obtain ⟨vs, e, r⟩ := h; exact ⟨vs, e, r.mono ha hf⟩
  | dic kvs => obtain ⟨vs, e, r⟩ := h; exact ⟨vs, e, r.mono ha hf⟩
  | ins c fs => obtain ⟨dx, vs, e, r⟩ := h; exact ⟨dx, vs, e, r.mono ha hf⟩
  | _ => trivial
theorem CellAt.heap {H' : Hp} {a : Addr} {d : D} (e : live d = true → H' a = H a) (h : CellAt K α F H a d) : CellAt K α F H' a d := by
  cases d with
  | lst ds => obtain ⟨vs, q, r⟩ := h; exact ⟨vs, by rw [e rfl]; exact q, r⟩
  | dic kvs => obtain ⟨vs, q, r⟩ := h; exact ⟨vs, by rw [e rfl]; exact q, r⟩
  | ins c fs => obtain ⟨dx, vs, q, r⟩ := h; exact ⟨dx, vs, by rw [e rfl]; exact q, r⟩
  | _ => trivial
theorem CellAt.there {a : Addr} {d : D} (l : live d = true) (h : CellAt K α F H a d) : ∃ o, H a = some o := by
  cases d with
  | lst ds => obtain ⟨vs, q, r⟩ := h; exact ⟨_, q⟩
  | dic kvs => obtain ⟨vs, q, r⟩ := h; exact ⟨_, q⟩
  | ins c fs => obtain ⟨dx, vs, q, r⟩ := h; exact ⟨_, q⟩
  | _ => cases l
theorem St.fresh (S : St K B α F κ H) {p : Addr} (h : H p = none) : F p = none := by
  cases e : F p with
  | none => rfl
  | some o =>
    rw [S.sub p o e] at h
    cases h
theorem St.rd (S : St K B α F κ H) {a : Addr} {u : HO} (r : Rd F a u) : Rd H a u := r.elim (fun r => .inl (S.sub _ _ r)) fun ⟨o, r⟩ => .inr ⟨o, S.sub _ _ r⟩
theorem St.sqL (S : St K B α F κ H) {a : Addr} {xs : List V} (r : SqL K F a xs) : SqL K H a xs := r.elim (fun r => .inl (S.rd r)) .inr
theorem St.sqT (S : St K B α F κ H) {a : Addr} {xs : List V} (r : SqT K F a xs) : SqT K H a xs := r.elim (fun r => .inl (S.rd r)) .inr
/-- a new object, not frozen yet -/
theorem St.alloc (S : St K B α F κ H) {p : Addr} {o : HO} (h : H p = none) : St K B α F κ (upd H p o) where
  prv := fun a u e => by rw [upd_ne (ne_of_none (S.prv a u e) h)]; exact S.prv a u e
  dis := S.dis
  sub := fun a u e => by rw [upd_ne (ne_of_none (S.sub a u e) h)]; exact S.sub a u e
  len := S.len
  cel := fun i a d e1 e2 => (S.cel i a d e1 e2).heap fun l => by
    obtain ⟨u, q⟩ := (S.cel i a d e1 e2).there l
    exact upd_ne (ne_of_none q h)
  out := S.out
  inj := S.inj
/-- a new frozen object -/
theorem St.frozen (S : St K B α F κ H) {p : Addr} {o : HO} (h : H p = none) : St K B α (upd F p o) κ (upd H p o) where
  prv := fun a u e => by rw [upd_ne (ne_of_none (S.prv a u e) h)]; exact S.prv a u e
  dis := fun a u e => ⟨by rw [upd_ne (ne_of_none (S.prv a u e) h)]; exact (S.dis a u e).1, (S.dis a u e).2⟩
  sub := fun a u e => by
    by_cases q : a = p
    · subst q
      rw [upd_same] at e ⊢
      exact e
    · rw [upd_ne q] at e ⊢
      exact S.sub a u e
  len := S.len
  cel := fun i a d e1 e2 => ((S.cel i a d e1 e2).mono (AExt.refl _) (FExt.new (S.fresh h))).heap fun l => by
    obtain ⟨u, q⟩ := (S.cel i a d e1 e2).there l
    exact upd_ne (ne_of_none q h)
  out := fun i a d e1 e2 l => by
    obtain ⟨u, q⟩ := (S.cel i a d e1 e2).there l
    rw [upd_ne (ne_of_none q h)]
    exact S.out i a d e1 e2 l
  inj := S.inj
/-- an object that stands, not of the frozen part nor a cell, is frozen -/
theorem St.freeze (S : St K B α F κ H) {p : Addr} {o : HO} (h : H p = some o) (hn : F p = none) (nc : ∀ (i : Nat) (d : D), α[i]? = some p → κ[i]? = some d → live d = false) (nb : B p = none) : St K B α (upd F p o) κ H where
  prv := S.prv
  dis := fun a u e => ⟨by rw [upd_ne (ne_of_none e nb)]; exact (S.dis a u e).1, (S.dis a u e).2⟩
  sub := fun a u e => by
    by_cases q : a = p
    · subst q
      rw [upd_same] at e
      cases e
      exact h
    · rw [upd_ne q] at e
      exact S.sub a u e
  len := S.len
  cel := fun i a d e1 e2 => (S.cel i a d e1 e2).mono (AExt.refl _) (FExt.new hn)
  out := fun i a d e1 e2 l => by
    by_cases q : a = p
    · subst q
      rw [nc i d e1 e2] at l
      cases l
    · rw [upd_ne q]
      exact S.out i a d e1 e2 l
  inj := S.inj
/-- .. becomes a cell -/
theorem St.newCell (S : St K B α F κ H) {p : Addr} {d : D} (hc : CellAt K α F H p d) (hn : F p = none) (nc : ∀ (i : Nat) (e : D), α[i]? = some p → κ[i]? = some e → live e = false) (nb : B p = none) : St K B (α ++ [p]) F (κ ++ [d]) H where
  prv := S.prv
  dis := fun a u e => ⟨(S.dis a u e).1, fun i x e1 e2 => by
    by_cases q : i < α.length
    · rw [List.getElem?_append_left q] at e1
      rw [List.getElem?_append_left (S.len ▸ q)] at e2
      exact (S.dis a u e).2 i x e1 e2
    · rw [List.getElem?_append_right (Nat.le_of_not_lt q)] at e1
      have z : i - α.length = 0 := by
        have := (List.getElem?_eq_some_iff.mp e1).1
        simp at this
        omega
      rw [z] at e1
      cases e1
      rw [nb] at e
      cases e⟩
  sub := S.sub
  len := by rw [List.length_append, List.length_append, S.len]; rfl
  cel := fun i a e e1 e2 => by
    by_cases q : i < α.length
    · rw [List.getElem?_append_left q] at e1
      rw [List.getElem?_append_left (S.len ▸ q)] at e2
      exact (S.cel i a e e1 e2).mono (AExt.snoc _ _) (FExt.refl _)
    · rw [List.getElem?_append_right (Nat.le_of_not_lt q)] at e1
      rw [List.getElem?_append_right (S.len ▸ Nat.le_of_not_lt q)] at e2
      have z : i - α.length = 0 := by
        have := (List.getElem?_eq_some_iff.mp e1).1
        simp at this
        omega
      rw [z] at e1
      rw [← S.len, z] at e2
      cases e1
      cases e2
      exact hc.mono (AExt.snoc _ _) (FExt.refl _)
  out := fun i a e e1 e2 l => by
    by_cases q : i < α.length
    · rw [List.getElem?_append_left q] at e1
      rw [List.getElem?_append_left (S.len ▸ q)] at e2
      exact S.out i a e e1 e2 l
    · rw [List.getElem?_append_right (Nat.le_of_not_lt q)] at e1
      have z : i - α.length = 0 := by
        have := (List.getElem?_eq_some_iff.mp e1).1
        simp at this
        omega
      rw [z] at e1
      cases e1
      exact hn
  inj := fun i j a x y e1 e2 e3 e4 l1 l2 => by
    by_cases q : i < α.length
    · rw [List.getElem?_append_left q] at e1
      rw [List.getElem?_append_left (S.len ▸ q)] at e3
      by_cases r : j < α.length
      · rw [List.getElem?_append_left r] at e2
        rw [List.getElem?_append_left (S.len ▸ r)] at e4
        exact S.inj i j a x y e1 e2 e3 e4 l1 l2
      · rw [List.getElem?_append_right (Nat.le_of_not_lt r)] at e2
        have z : j - α.length = 0 := by
          have := (List.getElem?_eq_some_iff.mp e2).1
          simp at this
          omega
        rw [z] at e2
        cases e2
        rw [nc i x e1 e3] at l1
        cases l1
    · rw [List.getElem?_append_right (Nat.le_of_not_lt q)] at e1
      have z : i - α.length = 0 := by
        have := (List.getElem?_eq_some_iff.mp e1).1
        simp at this
        omega
      rw [z] at e1
      cases e1
      by_cases r : j < α.length
      · rw [List.getElem?_append_left r] at e2
        rw [List.getElem?_append_left (S.len ▸ r)] at e4
        rw [nc j y e2 e4] at l2
        cases l2
      · rw [List.getElem?_append_right (Nat.le_of_not_lt r)] at e2
        have := (List.getElem?_eq_some_iff.mp e2).1
        simp at this
        omega
/-- a cell is changed -/
theorem St.change (S : St K B α F κ H) {i : Nat} {p : Addr} {d d' : D} {o : HO} (h1 : α[i]? = some p) (h2 : κ[i]? = some d) (l : live d = true) (hc : CellAt K α F (upd H p o) p d') : St K B α F (κ.set i d') (upd H p o) where
  prv := fun a u e => by
    have n : a ≠ p := fun z => by
      subst z
      rw [(S.dis a u e).2 i d h1 h2] at l
      cases l
    rw [upd_ne n]
    exact S.prv a u e
  dis := fun a u e => ⟨(S.dis a u e).1, fun j x e1 e2 => by
    by_cases q : j = i
    · subst q
      rw [h1] at e1
      cases e1
      rw [(S.dis _ u e).2 j d h1 h2] at l
      cases l
    · rw [List.getElem?_set_ne (Ne.symm q)] at e2
      exact (S.dis a u e).2 j x e1 e2⟩
  sub := fun a u e => by
    have n : a ≠ p := fun z => by
      rw [z, S.out i p d h1 h2 l] at e
      cases e
    rw [upd_ne n]
    exact S.sub a u e
  len := by rw [List.length_set]; exact S.len
  cel := fun j a e e1 e2 => by
    by_cases q : j = i
    · subst q
      rw [h1] at e1
      cases e1
      rw [List.getElem?_set_self (List.getElem?_eq_some_iff.mp h2).1] at e2
      cases e2
      exact hc
    · rw [List.getElem?_set_ne (Ne.symm q)] at e2
      refine (S.cel j a e e1 e2).heap fun le => upd_ne fun z => ?_
      subst z
      exact q (S.inj j i _ e d e1 h1 e2 h2 le l)
  out := fun j a e e1 e2 le => by
    by_cases q : j = i
    · subst q
      rw [h1] at e1
      cases e1
      exact S.out j p d h1 h2 l
    · rw [List.getElem?_set_ne (Ne.symm q)] at e2
      exact S.out j a e e1 e2 le
  inj := fun j k a x y e1 e2 e3 e4 l1 l2 => by
    by_cases q : j = i
    · by_cases r : k = i
      · rw [q, r]
      · rw [List.getElem?_set_ne (Ne.symm r)] at e4
        rw [q] at e1 ⊢
        exact S.inj i k a d y e1 e2 h2 e4 l l2
    · rw [List.getElem?_set_ne (Ne.symm q)] at e3
      by_cases r : k = i
      · rw [r] at e2 ⊢
        exact S.inj j i a x d e1 e2 e3 h2 l1 l
      · rw [List.getElem?_set_ne (Ne.symm r)] at e4
        exact S.inj j k a x y e1 e2 e3 e4 l1 l2
/-- a cell is given up -/
theorem St.kill (S : St K B α F κ H) (i : Nat) : St K B α F (κ.set i .non) H where
  prv := S.prv
  dis := fun a u e => ⟨(S.dis a u e).1, fun j x e1 e2 => by
    by_cases q : j = i
    · subst q
      have z := (List.getElem?_eq_some_iff.mp e2).1
      rw [List.length_set] at z
      rw [List.getElem?_set_self z] at e2
      cases e2
      rfl
    · rw [List.getElem?_set_ne (Ne.symm q)] at e2
      exact (S.dis a u e).2 j x e1 e2⟩
  sub := S.sub
  len := by rw [List.length_set]; exact S.len
  cel := fun j a e e1 e2 => by
    by_cases q : j = i
    · subst q
      have z := (List.getElem?_eq_some_iff.mp e2).1
      rw [List.length_set] at z
      rw [List.getElem?_set_self z] at e2
      cases e2
      trivial
    · rw [List.getElem?_set_ne (Ne.symm q)] at e2
      exact S.cel j a e e1 e2
  out := fun j a e e1 e2 l => by
    by_cases q : j = i
    · subst q
      have z := (List.getElem?_eq_some_iff.mp e2).1
      rw [List.length_set] at z
      rw [List.getElem?_set_self z] at e2
      cases e2
      cases l
    · rw [List.getElem?_set_ne (Ne.symm q)] at e2
      exact S.out j a e e1 e2 l
  inj := fun j k a x y e1 e2 e3 e4 l1 l2 => by
    by_cases q : j = i
    · subst q
      have z := (List.getElem?_eq_some_iff.mp e3).1
      rw [List.length_set] at z
      rw [List.getElem?_set_self z] at e3
      cases e3
      cases l1
    · rw [List.getElem?_set_ne (Ne.symm q)] at e3
      by_cases r : k = i
      · subst r
        have z := (List.getElem?_eq_some_iff.mp e4).1
        rw [List.length_set] at z
        rw [List.getElem?_set_self z] at e4
        cases e4
        cases l2
      · rw [List.getElem?_set_ne (Ne.symm r)] at e4
        exact S.inj j k a x y e1 e2 e3 e4 l1 l2
/-- an object of nobody's business comes under the state's eyes, and back -/
theorem St.priv {B' : Hp} (S : St K B' α F κ H) (h : ∀ a o, B a = some o → B' a = some o) : St K B α F κ H := ⟨fun a o e => S.prv a o (h a o e), fun a o e => S.dis a o (h a o e), S.sub, S.len, S.cel, S.out, S.inj⟩
theorem St.hide (S : St K B α F κ H) {p : Addr} {o : HO} (h : H p = some o) (hn : F p = none) (nc : ∀ (i : Nat) (d : D), α[i]? = some p → κ[i]? = some d → live d = false) : St K (upd B p o) α F κ H where
  prv := fun a u e => by
    by_cases q : a = p
    · subst q
      rw [upd_same] at e
      cases e
      exact h
    · rw [upd_ne q] at e
      exact S.prv a u e
  dis := fun a u e => by
    by_cases q : a = p
    · subst q
      exact ⟨hn, nc⟩
    · rw [upd_ne q] at e
      exact S.dis a u e
  sub := S.sub
  len := S.len
  cel := S.cel
  out := S.out
  inj := S.inj
/-- what is hidden is changed -/
theorem St.store {p : Addr} {o o' : HO} (S : St K (upd B p o) α F κ H) : St K (upd B p o') α F κ (upd H p o') where
  prv := fun a u e => by
    by_cases q : a = p
    · subst q
      rw [upd_same] at e ⊢
      exact e
    · rw [upd_ne q] at e ⊢
      exact S.prv a u (by rw [upd_ne q]; exact e)
  dis := fun a u e => by
    by_cases q : a = p
    · subst q
      exact S.dis a o upd_same
    · rw [upd_ne q] at e
      exact S.dis a u (by rw [upd_ne q]; exact e)
  sub := fun a u e => by
    have n : a ≠ p := fun z => by
      subst z
      rw [(S.dis a o upd_same).1] at e
      cases e
    rw [upd_ne n]
    exact S.sub a u e
  len := S.len
  cel := fun i a d e1 e2 => (S.cel i a d e1 e2).heap fun l => upd_ne fun z => by
    subst z
    rw [(S.dis a o upd_same).2 i d e1 e2] at l
    cases l
  out := S.out
  inj := S.inj
/-- no live cell stands where F has an object, or where nothing stands -/
theorem St.noCell (S : St K B α F κ H) {p : Addr} (h : H p = none) : ∀ (i : Nat) (d : D), α[i]? = some p → κ[i]? = some d → live d = false := fun i d e1 e2 => by
  cases l : live d with
  | false => rfl
  | true =>
    obtain ⟨u, q⟩ := (S.cel i p d e1 e2).there l
    rw [h] at q
    cases q
end

/-! ### the slots -/
structure RepE (K : PySem.W.Frag) (α : List Addr) (F : Hp) (ρ : Env') (σ : L2.St) : Prop where
  len : ρ.length = σ.length
  at_ : ∀ (i : Nat) (d : D), ρ[i]? = some (some d) → ∃ v, σ[i]? = some (some v) ∧ Rep K α F d v
section
variable {K : PySem.W.Frag} {α α' : List Addr} {F F' H : Hp} {ρ : Env'} {σ : L2.St}
theorem RepE.mono (ha : AExt α α') (hf : FExt F F') (h : RepE K α F ρ σ) : RepE K α' F' ρ σ := ⟨h.len, fun i d e => let ⟨v, q, r⟩ := h.at_ i d e; ⟨v, q, r.mono ha hf⟩⟩
theorem RepE.set {d : D} {v : V} (i : Nat) (h : RepE K α F ρ σ) (r : Rep K α F d v) : RepE K α F (ρ.set i (some d)) (σ.set i (some v)) where
  len := by rw [List.length_set, List.length_set]; exact h.len
  at_ := fun j e q => by
    by_cases z : j = i
    · subst z
      have l := (List.getElem?_eq_some_iff.mp q).1
      rw [List.length_set] at l
      rw [List.getElem?_set_self l] at q
      cases q
      exact ⟨v, List.getElem?_set_self (h.len ▸ l), r⟩
    · rw [List.getElem?_set_ne (Ne.symm z)] at q
      obtain ⟨w, q1, q2⟩ := h.at_ j e q
      exact ⟨w, by rw [List.getElem?_set_ne (Ne.symm z)]; exact q1, q2⟩
end

/-! ### readings -/
/-- an exception's wish -/
abbrev WX' := Str → List (Str × V) → L2.St → Hp → Prop
def PostX (K : PySem.W.Frag) (B : Hp) (W : WX) (σ : L2.St) (α : List Addr) (F : Hp) (c : Str) (fs : List (Str × D)) (κ : Store) : Prop :=
  ∀ dx us H' α' F', AExt α α' → FExt F F' → St K B α' F' κ H' → F' dx = some (.xd us) → RepF K α' F' fs us → W (.ref (He.ga K c)) (some dx) σ H'
def Post (K : PySem.W.Frag) (B : Hp) (W : WX) (σ : L2.St) (α : List Addr) (F : Hp) (Q : VK) : Res D → Prop
  | .ok d κ => ∀ v H' α' F', AExt α α' → FExt F F' → St K B α' F' κ H' → Rep K α' F' d v → Q v H'
  | .exc c fs κ => PostX K B W σ α F c fs κ
  | .bad => False
def PostT (K : PySem.W.Frag) (B : Hp) (W : WX) (σ : L2.St) (α : List Addr) (F : Hp) (Q : Bool → Hp → Prop) : Res Bool → Prop
  | .ok d κ => ∀ H' α' F', AExt α α' → FExt F F' → St K B α' F' κ H' → Q d H'
  | .exc c fs κ => PostX K B W σ α F c fs κ
  | .bad => False
def PostA (K : PySem.W.Frag) (B : Hp) (W : WX) (σ : L2.St) (α : List Addr) (F : Hp) (Q : List V → Hp → Prop) : Res (List D) → Prop
  | .ok d κ => ∀ v H' α' F', AExt α α' → FExt F F' → St K B α' F' κ H' → RepL K α' F' d v → Q v H'
  | .exc c fs κ => PostX K B W σ α F c fs κ
  | .bad => False
section
variable {K : PySem.W.Frag} {B : Hp} {W : WX} {σ : L2.St} {α α1 : List Addr} {F F1 : Hp}
theorem PostX.mono {c : Str} {fs : List (Str × D)} {κ : Store} (ha : AExt α α1) (hf : FExt F F1) (h : PostX K B W σ α F c fs κ) : PostX K B W σ α1 F1 c fs κ :=
  fun dx us H' α' F' a f => h dx us H' α' F' (ha.trans a) (hf.trans f)
theorem Post.mono {Q : VK} {r : Res D} (ha : AExt α α1) (hf : FExt F F1) (h : Post K B W σ α F Q r) : Post K B W σ α1 F1 Q r := by
  cases r with
  | ok d κ => exact fun v H' α' F' a f => h v H' α' F' (ha.trans a) (hf.trans f)
  | exc c fs κ => exact PostX.mono ha hf h
  | bad => exact h
theorem PostT.mono {Q : Bool → Hp → Prop} {r : Res Bool} (ha : AExt α α1) (hf : FExt F F1) (h : PostT K B W σ α F Q r) : PostT K B W σ α1 F1 Q r := by
  cases r with
  | ok d κ => exact fun H' α' F' a f => h H' α' F' (ha.trans a) (hf.trans f)
  | exc c fs κ => exact PostX.mono ha hf h
  | bad => exact h
theorem PostA.mono {Q : List V → Hp → Prop} {r : Res (List D)} (ha : AExt α α1) (hf : FExt F F1) (h : PostA K B W σ α F Q r) : PostA K B W σ α1 F1 Q r := by
  cases r with
  | ok d κ => exact fun v H' α' F' a f => h v H' α' F' (ha.trans a) (hf.trans f)
  | exc c fs κ => exact PostX.mono ha hf h
  | bad => exact h
end
/-- the reading of an expression by its semantic function -/
def tE (K : PySem.W.Frag) (W : WX) (m : Env' → Store → Res D) : TE := fun σ H Q => ∃ B α F κ ρ, St K B α F κ H ∧ RepE K α F ρ σ ∧ Post K B W σ α F Q (m ρ κ)
def tT (K : PySem.W.Frag) (W : WX) (m : Env' → Store → Res Bool) : TT := fun σ H Q => ∃ B α F κ ρ, St K B α F κ H ∧ RepE K α F ρ σ ∧ PostT K B W σ α F Q (m ρ κ)
def tA (K : PySem.W.Frag) (W : WX) (m : Env' → Store → Res (List D)) : TA := fun σ H Q => ∃ B α F κ ρ, St K B α F κ H ∧ RepE K α F ρ σ ∧ PostA K B W σ α F Q (m ρ κ)
/-- another reading that asks no more -/
theorem pe_imp {X : Cx} {e : Expr} {t t' : TE} (h : PE X e t) (i : ∀ σ H Q, t' σ H Q → t σ H Q) : PE X e t' := ⟨fun pins s σ H Q I q => h.run pins s σ H Q I (i σ H Q q)⟩
theorem pt_imp {X : Cx} {e : Expr} {t t' : TT} (h : PT X e t) (i : ∀ σ H Q, t' σ H Q → t σ H Q) : PT X e t' := ⟨fun pins s σ H Q I q => h.run pins s σ H Q I (i σ H Q q)⟩
theorem pw_imp {X : Cx} {e : Expr} {t t' : TT} (h : PW X e t) (i : ∀ σ H Q, t' σ H Q → t σ H Q) : PW X e t' := ⟨fun wh pins s σ H Q I q => h.run wh pins s σ H Q I (i σ H Q q)⟩
theorem pa_imp {X : Cx} {e : List Expr} {t t' : TA} (h : PA X e t) (i : ∀ σ H Q, t' σ H Q → t σ H Q) : PA X e t' := ⟨fun pos pins s σ H Q I q => h.run pos pins s σ H Q I (i σ H Q q)⟩
theorem ps_imp {X : Cx} {e : Stmt} {t t' : TS} (h : PS X e t) (i : ∀ D σ H, t' D σ H → t D σ H) : PS X e t' := ⟨fun pins s σ H D I q => h.run pins s σ H D I (i D σ H q)⟩
theorem pss_imp {X : Cx} {e : List Stmt} {t t' : TS} (h : PSs X e t) (i : ∀ D σ H, t' D σ H → t D σ H) : PSs X e t' := ⟨fun pins s σ H D I q => h.run pins s σ H D I (i D σ H q)⟩
section
variable {K : PySem.W.Frag} {B : Hp} {W : WX} {σ : L2.St} {H : Hp} {α : List Addr} {F : Hp} {κ : Store} {ρ : Env'}
/-- one after the other -/
theorem tE_seq {m : Env' → Store → Res D} {f : D → Store → Res D} {Q R : VK} (S : St K B α F κ H) (E : RepE K α F ρ σ) (h : Post K B W σ α F Q ((m ρ κ).bind f))
    (k : ∀ d κ1 v H1 α1 F1, m ρ κ = .ok d κ1 → AExt α α1 → FExt F F1 → St K B α1 F1 κ1 H1 → RepE K α1 F1 ρ σ → Rep K α1 F1 d v → Post K B W σ α1 F1 Q (f d κ1) → R v H1) : tE K W m σ H R := by
  refine ⟨B, α, F, κ, ρ, S, E, ?_⟩
  cases e : m ρ κ with
  | ok d κ1 =>
    rw [e] at h
    exact fun v H1 α1 F1 a1 f1 S1 r1 => k d κ1 v H1 α1 F1 e a1 f1 S1 (E.mono a1 f1) r1 (Post.mono a1 f1 h)
  | exc c fs κ1 =>
    rw [e] at h
    exact h
  | bad =>
    rw [e] at h
    exact h
end
end I3

set_option Elab.async false
set_option linter.all false
set_option autoImplicit false
set_option maxRecDepth 100000
set_option maxHeartbeats 1000000
/-! I3c: the language without places, its evaluator. -/
namespace I3
open PySem PySem.Spec PyProof.Rows L2

/-! ### local cells resolved -/
mutual
def sub (j : Nat) (t : D) : D → D
  | .cell i => if i = j then t else .cell i
  | .tup ds => .tup (subL j t ds)
  | .lst ds => .lst (subL j t ds)
  | .dic kvs => .dic (subK j t kvs)
  | .ins c fs => .ins c (subF j t fs)
  | .non => .non
  | .bl b => .bl b
  | .int i => .int i
  | .str x => .str x
  | .gl x => .gl x
  | .exn a dx c fs => .exn a dx c (subF j t fs)
def subL (j : Nat) (t : D) : List D → List D
  | [] => []
  | d :: ds => sub j t d :: subL j t ds
def subK (j : Nat) (t : D) : List (Key × D) → List (Key × D)
  | [] => []
  | (k, d) :: ds => (k, sub j t d) :: subK j t ds
def subF (j : Nat) (t : D) : List (Str × D) → List (Str × D)
  | [] => []
  | (k, d) :: ds => (k, sub j t d) :: subF j t ds
end
mutual
/-- all cells below n -/
def closed (n : Nat) : D → Bool
  | .cell i => decide (i < n)
  | .tup ds => closedL n ds
  | .lst ds => closedL n ds
  | .dic kvs => closedK n kvs
  | .ins _ fs => closedF n fs
  | .non => true
  | .bl _ => true
  | .int _ => true
  | .str _ => true
  | .gl _ => true
  | .exn _ _ _ fs => closedF n fs
def closedL (n : Nat) : List D → Bool
  | [] => true
  | d :: ds => closed n d && closedL n ds
def closedK (n : Nat) : List (Key × D) → Bool
  | [] => true
  | (_, d) :: ds => closed n d && closedK n ds
def closedF (n : Nat) : List (Str × D) → Bool
  | [] => true
  | (_, d) :: ds => closed n d && closedF n ds
end
def resolve (b : Nat) : List D → D → D
  | [], d => d
  | o :: ls, d => match live o with
    | true => sub b (resolve (b + 1) ls o) (resolve (b + 1) ls d)
    | false => resolve (b + 1) ls d
/-- how a def hands back its own cells: as trees; the one handed back stays a cell; all stay -/
inductive Mode where
  | tree | cell | keep
/-- what a def hands back -/
def finish (n : Nat) : Mode → D → Store → Res D
  | .keep, d, κ => .ok d κ
  | .tree, d, κ => if κ.length = n then .ok d κ else
    match closed n (resolve n (κ.drop n) d) && closedL n (κ.take n) with
    | true => .ok (resolve n (κ.drop n) d) (κ.take n)
    | false => .bad
  | .cell, .cell j, κ => if j < n then .bad else (match κ[j]? with
    | some o => (match live o && closed n (resolve n ((κ.set j .non).drop n) o) && closedL n (κ.take n) with
      | true => .ok (.cell n) (κ.take n ++ [resolve n ((κ.set j .non).drop n) o])
      | false => .bad)
    | none => .bad)
  | .cell, _, _ => .bad

/-! ### syntax -/
inductive Bop where
  | add | sub | mul | fdiv | mod | pow | band
  deriving DecidableEq
inductive Cop where
  | eq | ne | lt | le | gt | ge | isn | notn | inn | ntn
  deriving DecidableEq
/-- one-place built-ins -/
inductive F1 where
  | len | abs | int | any | all | str | list | tuple | sum | min | max | dict | sorted
  deriving DecidableEq
/-- built-in types -/
inductive Ty where
  | int | str | bool | list | tuple | dict
  deriving DecidableEq
def Ty.nm : Ty → String
  | .int => "int"
  | .str => "str"
  | .bool => "bool"
  | .list => "list"
  | .tuple => "tuple"
  | .dict => "dict"
/-- methods of built-in types -/
inductive BM where
  | starts | split2 | split1 | part
  deriving DecidableEq
/-- targets -/
inductive Tg where
  | nm (i : Nat)
  | tp (ts : List Tg)
mutual
inductive E where
  | bad
  | var (i : Nat)
  /-- a cell's name at its last use: the object becomes a tree -/
  | fzv (i : Nat)
  | non | bl (b : Bool) | int (i : Int) | str (x : Str)
  | glob (x : Str)
  | cat (c a : Str)
  | bin (o : Bop) (a b : E)
  | neg (a : E) | not (a : E)
  | cmp (o : Cop) (a b : E)
  | cmp2 (o o2 : Cop) (a b c : E)
  | and (a b : E) | or (a b : E) | one (a : E)
  | ife (c : T) (a b : E)
  | tup (es : List E) | lst (es : List E) | lstC (es : List E)
  | sub (a i : E)
  | f1 (f : F1) (a : E)
  | max2 (a b : E) | min2 (a b : E)
  /-- isinstance(a, T), T a built-in type; a class of the module -/
  | isin (a : E) (t : Ty)
  | isown (a : E) (c : Str)
  | call (f : Str) (es : List E)
  | scall (c m : Str) (es : List E)
  | join (a b : E)
  | comp (t : Tg) (s : Src) (c : List T) (e : E) (own : List Nat)
  | attr (a : E) (f : Str)
  | dic (es : List E)
  | meth (a : E) (m : Str) (es : List E)
  | make (c : Str) (es : List E) (md : Mode)
  /-- a[lo:hi]; non for a part that is not written -/
  | slice (a lo hi : E)
  /-- of the caught exception at slot i: its attribute; isinstance(e, y) -/
  | xfld (i : Nat) (f : Str)
  | xis (i : Nat) (y : Str)
  /-- f'..': a formatted part; the parts -/
  | fmt (a : E)
  | joined (es : List E)
  /-- a[::-1] -/
  | rev (a : E)
  /-- ==, != where the left one may be an instance with its own ==; str(a), a perhaps such -/
  | eqo (n : Bool) (a b : E)
  | stro (a : E)
  /-- a method of a built-in type -/
  | bm (m : BM) (a : E) (es : List E)
/-- tests -/
inductive T where
  | e (a : E)
  | cmp (o : Cop) (a b : E)
  | cmp2 (o o2 : Cop) (a b c : E)
  | not (a : T) | and (a b : T) | or (a b : T) | one (a : T)
  | ife (c a b : T)
  | eqo (n : Bool) (a b : E)
inductive Src where
  | val (e : E) | rng1 (e : E) | rng2 (a b : E)
end
inductive S where
  | bad | pass | brk | cont
  | asg (t : Tg) (e : E)
  | expr (e : E)
  | ret (e : E) | retN
  | ifs (c : T) (a b : List S)
  | for_ (t : Tg) (s : Src) (b : List S)
  | setI (o i e : E)
  | app (o e : E)
  | par (i j : Nat) (a b : E)
  | par3 (i j l : Nat) (a b c : E)
  | setA (o : E) (f : Str) (e : E)
  | aug (i : Nat) (e : E)
  /-- o[i], name = a, b -/
  | setN (o i : E) (j : Nat) (a b : E)
  | raise (c : Str) (es : List E)
  | try_ (b : List S) (c : Str) (n : Option Nat) (h : List S)

/-! ### operations -/
def big : Int := 1606938044258990275541962092341162602522202993782792835301376
/-- a cell's content; of a cell that is given up: a thing of no use -/
def liveOr : Option D → D
  | some (.lst xs) => .lst xs
  | some (.dic xs) => .dic xs
  | some (.ins c xs) => .ins c xs
  | _ => .gl Str.empty
def cellOf (κ : Store) : D → D
  | .cell i => liveOr κ[i]?
  | d => d
def seqOf (κ : Store) (d : D) : Option (List D) := match cellOf κ d with
  | .lst xs => some xs
  | .tup xs => some xs
  | _ => none
/-- a text some times -/
def strRep (x : Str) (n : Int) : Str := if n < 1 then Str.empty else if (n == 1 || x.length == 0) = true then x else ⟨(List.replicate n.toNat x.cps).foldl (· ++ ·) #[]⟩
/-- operations on lists, tuples, texts; none: not such -/
def seqBin (o : Bop) (d e : D) (κ : Store) : Option (Res D) := match o, cellOf κ d, cellOf κ e with
  | .add, .lst xs, .lst ys => some (if xs.length + ys.length ≤ 16777216 then .ok (.lst (xs ++ ys)) κ else .bad)
  | .mul, .str x, .int n => some (if (-1000 ≤ n ∧ n ≤ 1000000) ∧ x.length ≤ 16 then .ok (.str (strRep x n)) κ else .bad)
  | _, _, _ => none
def scBin (o : Bop) (d e : D) (κ : Store) : Res D := match o, d, e with
  | .add, .int i, .int j => .ok (.int (i + j)) κ
  | .sub, .int i, .int j => .ok (.int (i - j)) κ
  | .mul, .int i, .int j => if (-big < i ∧ i < big) ∧ (-big < j ∧ j < big) then .ok (.int (i * j)) κ else .bad
  | .fdiv, .int i, .int j => if 0 < j ∧ j < big then .ok (.int (i / j)) κ else .bad
  | .mod, .int i, .int j => if 0 < j then .ok (.int (i % j)) κ else .bad
  | .pow, .int i, .int j => if (0 ≤ j ∧ j ≤ 100) ∧ (-18446744073709551616 < i ∧ i < 18446744073709551616) then .ok (.int (i ^ j.toNat)) κ else .bad
  | .band, .int i, .int j => if j = 1 then .ok (.int (i % 2)) κ else .bad
  | .add, .str x, .str y => if x.length + y.length ≤ 16777216 then .ok (.str (x ++ y)) κ else .bad
  | _, _, _ => .bad
def opBin (o : Bop) (d e : D) (κ : Store) : Res D := match seqBin o d e κ with
  | some r => r
  | none => scBin o d e κ
/-- == of scalars -/
def eqS : D → D → Option Bool
  | .non, .non => some true
  | .int i, .int j => some (decide (i = j))
  | .bl a, .bl b => some (decide (a = b))
  | .str x, .str y => some (decide (x = y))
  | .non, .int _ => some false
  | .int _, .non => some false
  | .non, .bl _ => some false
  | .bl _, .non => some false
  | .non, .str _ => some false
  | .str _, .non => some false
  | .int _, .str _ => some false
  | .str _, .int _ => some false
  | .bl _, .str _ => some false
  | .str _, .bl _ => some false
  | _, _ => none
mutual
/-- data of built-in kinds -/
def dpD : D → Option PyData
  | .non => some .none
  | .bl b => some (.bool b)
  | .int i => some (.int i)
  | .str x => some (.str x)
  | .tup ds => (dpL ds).map .tuple
  | .lst ds => (dpL ds).map .list
  | _ => none
def dpL : List D → Option (List PyData)
  | [] => some []
  | d :: ds => (dpD d).bind fun p => (dpL ds).map (p :: ·)
end
/-- == of lists and tuples -/
def eqO (d e : D) (κ : Store) : Option Bool := match dpD (cellOf κ d), dpD (cellOf κ e) with
  | some p, some q => if (SeqAt.shaped p && SeqAt.shaped q) = true then some (PyData.eqv p q) else none
  | _, _ => none
def isNonD : D → Bool
  | .non => true
  | _ => false
def keyD : D → Option Key
  | .int i => some (.inl i)
  | .str x => some (.inr x)
  | _ => none
def valD : List (Key × D) → Key → Option D
  | [], _ => none
  | (k', d) :: r, k => if k' = k then some d else valD r k
def flatD : D → Bool
  | .non => true
  | .bl _ => true
  | .int _ => true
  | .str _ => true
  | _ => false
/-- == within lists -/
def eqFl : D → D → Bool
  | .non, .non => true
  | .bl a, .bl b => a == b
  | .bl a, .int b => (if a then 1 else 0) == b
  | .int a, .bl b => a == (if b then 1 else 0)
  | .int a, .int b => a == b
  | .str a, .str b => a == b
  | _, _ => false
def inList (d : D) (xs : List D) : Option Bool := if flatD d && xs.all flatD then some (xs.any fun y => eqFl y d) else none
/-- d in e -/
def inD (d e : D) (κ : Store) : Option Bool := match cellOf κ e with
  | .lst xs => inList d xs
  | .tup xs => inList d xs
  | .dic kvs => (keyD d).map fun k => (valD kvs k).isSome
  | .str z => (match d with
    | .str c => (match c.cps.toList with
      | [u] => some (decide (u ∈ z.cps.toList))
      | _ => none)
    | _ => none)
  | _ => none
def opCmp (o : Cop) (d e : D) (κ : Store) : Res D := match o with
  | .inn => (match inD d e κ with | some b => .ok (.bl b) κ | none => .bad)
  | .ntn => (match inD d e κ with | some b => .ok (.bl (!b)) κ | none => .bad)
  | .eq => (match eqS d e with | some b => .ok (.bl b) κ | none => (match eqO d e κ with | some b => .ok (.bl b) κ | none => .bad))
  | .ne => (match eqS d e with | some b => .ok (.bl (!b)) κ | none => (match eqO d e κ with | some b => .ok (.bl (!b)) κ | none => .bad))
  | .lt => (match d, e with | .int i, .int j => .ok (.bl (decide (i < j))) κ | _, _ => .bad)
  | .le => (match d, e with | .int i, .int j => .ok (.bl (decide (i ≤ j))) κ | _, _ => .bad)
  | .gt => (match d, e with | .int i, .int j => .ok (.bl (decide (j < i))) κ | _, _ => .bad)
  | .ge => (match d, e with | .int i, .int j => .ok (.bl (decide (j ≤ i))) κ | _, _ => .bad)
  | .isn => (match e with | .non => .ok (.bl (isNonD d)) κ | _ => .bad)
  | .notn => (match e with | .non => .ok (.bl (!isNonD d)) κ | _ => .bad)
def truth (d : D) (κ : Store) : Option Bool := match cellOf κ d with
  | .non => some false
  | .bl b => some b
  | .int i => some (i != 0)
  | .lst xs => some (!xs.isEmpty)
  | .tup xs => some (!xs.isEmpty)
  | _ => none
def ixD {β : Type} (xs : List β) (i : Int) : Option β := atI xs i
def opKey (kvs : List (Key × D)) (e : D) (κ : Store) : Res D := match keyD e with
  | some k => (match valD kvs k with | some x => .ok x κ | none => .bad)
  | none => .bad
def ixSub (d e : D) (κ : Store) : Res D := match e with
  | .int i => (match cellOf κ d with
    | .lst xs => (match atI xs i with | some x => .ok x κ | none => .bad)
    | .tup xs => (match atI xs i with | some x => .ok x κ | none => .bad)
    | .str z => if z.length ≤ 16777216 then (match atI z.cps.toList i with | some c => .ok (.str ⟨#[c]⟩) κ | none => .bad) else .bad
    | _ => .bad)
  | _ => .bad
def opSub (d e : D) (κ : Store) : Res D := match cellOf κ d with
  | .dic kvs => opKey kvs e κ
  | _ => ixSub d e κ
/-- keys and values, in turn -/
def pairUp : List D → Option (List (Key × D))
  | [] => some []
  | [_] => none
  | k :: v :: r => (keyD k).bind fun k => (pairUp r).map ((k, v) :: ·)
def opDic (ds : List D) (κ : Store) : Res D := match pairUp ds with
  | some kvs => if kvs.length ≤ 15 ∧ (kvs.map (·.1)).Nodup then .ok (.dic kvs) κ else .bad
  | none => .bad
def asBools : List D → Option (List Bool)
  | [] => some []
  | .bl b :: ds => (asBools ds).map (b :: ·)
  | _ => none
def asStrs : List D → Option (List Str)
  | [] => some []
  | .str b :: ds => (asStrs ds).map (b :: ·)
  | _ => none
def asInts : List D → Option (List Int)
  | [] => some []
  | .int b :: ds => (asInts ds).map (b :: ·)
  | _ => none
def opF1 (f : F1) (d : D) (κ : Store) : Res D := match f with
  | .len => (match cellOf κ d with
    | .lst xs => .ok (.int xs.length) κ
    | .tup xs => .ok (.int xs.length) κ
    | .str z => if z.length ≤ 16777216 then .ok (.int z.length) κ else .bad
    | _ => .bad)
  | .abs => (match d with | .int i => .ok (.int (if i < 0 then -i else i)) κ | _ => .bad)
  | .int => (match d with | .int i => .ok (.int i) κ | .bl b => .ok (.int (if b then 1 else 0)) κ | .str x => (match PySem.intText? x with | some n => if x.length ≤ 640 then .ok (.int n) κ else .bad | none => .bad) | _ => .bad)
  | .any => (match cellOf κ d with | .lst xs => (match asBools xs with | some bs => .ok (.bl (bs.any id)) κ | none => .bad) | _ => .bad)
  | .all => (match cellOf κ d with | .lst xs => (match asBools xs with | some bs => .ok (.bl (bs.all id)) κ | none => .bad) | _ => .bad)
  | .sum => (match cellOf κ d with | .lst xs => (match asInts xs with | some bs => .ok (.int bs.sum) κ | none => .bad) | _ => .bad)
  | .str => (match d with | .int i => if -big < i ∧ i < big then .ok (.str (Str.ofString (toString i))) κ else .bad | .str x => .ok (.str x) κ | _ => .bad)
  | .list => (match cellOf κ d with | .lst xs => .ok (.lst xs) κ | .tup xs => .ok (.lst xs) κ | _ => .bad)
  | .tuple => (match cellOf κ d with | .lst xs => .ok (.tup xs) κ | .tup xs => .ok (.tup xs) κ | _ => .bad)
  | _ => .bad
/-- isinstance against a built-in type -/
def isTy (t : Ty) (d : D) (κ : Store) : Option Bool := match cellOf κ d with
  | .non => some false
  | .bl _ => some (match t with | .bool => true | .int => true | _ => false)
  | .int _ => some (match t with | .int => true | _ => false)
  | .str _ => some (match t with | .str => true | _ => false)
  | .tup _ => some (match t with | .tuple => true | _ => false)
  | .lst _ => some (match t with | .list => true | _ => false)
  | .dic _ => some (match t with | .dict => true | _ => false)
  | _ => none
/-- the built-in type of a datum -/
def tyName (d : D) (κ : Store) : Option String := match cellOf κ d with
  | .non => some "NoneType"
  | .bl _ => some "bool"
  | .int _ => some "int"
  | .str _ => some "str"
  | .tup _ => some "tuple"
  | .lst _ => some "list"
  | .dic _ => some "dict"
  | _ => none
def opJoin (d e : D) (κ : Store) : Res D := match d, cellOf κ e with
  | .str a, .lst xs => (match asStrs xs with
    | some ys => if (ys.map (·.length)).sum + ys.length * a.length ≤ 16777216 then .ok (.str (Txt.join a ys)) κ else .bad
    | none => .bad)
  | _, _ => .bad
def partE : E → Bool
  | .non => true
  | _ => false
def opPart (d : D) (κ : Store) : Res (Option Int) := match d with
  | .int i => .ok (some i) κ
  | _ => .bad
def cutD {β : Type} (xs : List β) (lo hi : Option Int) : List β := (xs.drop (HT.sIx xs.length 0 lo)).take (HT.sIx xs.length xs.length hi - HT.sIx xs.length 0 lo)
/-- x[lo:hi]; of a tuple not the whole -/
def opSlice (x : D) (lo hi : Option Int) (κ : Store) : Res D := match cellOf κ x with
  | .lst xs => .ok (.lst (cutD xs lo hi)) κ
  | .tup xs => if HT.sIx xs.length 0 lo = 0 ∧ HT.sIx xs.length xs.length hi = xs.length then .bad else .ok (.tup (cutD xs lo hi)) κ
  | .str z => if z.length ≤ 16777216 then .ok (.str (Txt.slice z lo hi)) κ else .bad
  | _ => .bad
def revS (z : Str) : Str := ⟨z.cps.toList.reverse.toArray⟩
def opRev (x : D) (κ : Store) : Res D := match cellOf κ x with
  | .lst xs => .ok (.lst xs.reverse) κ
  | .str z => if z.length ≤ 16777216 then .ok (.str (revS z)) κ else .bad
  | _ => .bad
/-- an instance: its class, its attributes -/
def insOf (κ : Store) (d : D) : Option (Str × List (Str × D)) := match cellOf κ d with
  | .ins c fs => some (c, fs)
  | _ => none
def putD (f : Str) (x : D) : List (Str × D) → List (Str × D)
  | [] => [(f, x)]
  | (k, d) :: r => if k = f then (k, x) :: r else (k, d) :: putD f x r
/-- o.f = v -/
def opSetA (fld : Str → Str → Bool) (o : D) (f : Str) (v : D) (κ : Store) : Res Unit := match o with
  | .cell c => (match κ[c]? with
    | some (.ins k fs) => if fld k f = true ∧ fs.length < 1000 then .ok () (κ.set c (.ins k (putD f v fs))) else .bad
    | _ => .bad)
  | _ => .bad
/-- o[i] = v: a cell's list -/
def opSetI (o i v : D) (κ : Store) : Res Unit := match o, i with
  | .cell c, .int k => (match κ[c]? with
    | some (.lst xs) => (match ixN xs.length k with
      | some j => .ok () (κ.set c (.lst (xs.set j v)))
      | none => .bad)
    | _ => .bad)
  | _, _ => .bad

mutual
def bindT : Tg → D → Env' → Option Env'
  | .nm i, d, ρ => some (ρ.set i (some d))
  | .tp ts, .tup ds, ρ => bindTs ts ds ρ
  | .tp _, _, _ => none
def bindTs : List Tg → List D → Env' → Option Env'
  | [], [], ρ => some ρ
  | t :: ts, d :: ds, ρ => (bindT t d ρ).bind fun ρ' => bindTs ts ds ρ'
  | _, _, _ => none
end
def wipeE (ρ : Env') : List Nat → Env'
  | [] => ρ
  | v :: vs => (wipeE ρ vs).set v none
/-- what a loop goes over: a written number of items, or a cell's list as it stands at each turn -/
inductive Itm where
  | fix (xs : List D)
  | cel (i : Nat) (n : Nat)
def Itm.len : Itm → Nat
  | .fix xs => xs.length
  | .cel _ n => n
/-- the k-th item; none: out of use -/
def Itm.get (J : Itm) (k : Nat) (κ : Store) : Option D := match J with
  | .fix xs => xs[k]?
  | .cel i n => (match κ[i]? with
    | some (.lst xs) => if xs.length = n then xs[k]? else none
    | _ => none)
/-- .. at the end -/
def Itm.fin (J : Itm) (κ : Store) : Bool := match J with
  | .fix _ => true
  | .cel i n => (match κ[i]? with
    | some (.lst xs) => decide (xs.length = n)
    | _ => false)
/-- the signs of a text -/
def signsD (z : Str) : List D := z.cps.toList.map fun c => .str ⟨#[c]⟩
def itemsOf (d : D) (κ : Store) : Option Itm := match d with
  | .str z => some (.fix (signsD z))
  | .lst xs => some (.fix xs)
  | .tup xs => some (.fix xs)
  | .cell i => (match κ[i]? with
    | some (.lst xs) => some (.cel i xs.length)
    | _ => none)
  | _ => none
def rangeD (lo : Int) (n : Nat) : List D := (List.range n).map fun (i : Nat) => .int (lo + (i : Int))
/-- a list comprehension's turns: k left, the items made so far -/
def compL (J : Itm) (step : D → Store → Res (Option D)) : Nat → List D → Store → Res (List D)
  | 0, acc, κ => if J.fin κ then .ok acc κ else .bad
  | k + 1, acc, κ => match J.get (J.len - (k + 1)) κ with
    | none => .bad
    | some d => (step d κ).bind fun r κ1 => match r with
      | some x => compL J step k (acc ++ [x]) κ1
      | none => compL J step k acc κ1
inductive Flow where
  | next (ρ : Env') | ret (d : D) | brk (ρ : Env') | cont (ρ : Env')
  | exc (c : Str) (fs : List (Str × D)) (ρ : Env')
/-- an expression within a statement: what it raises is an end of the statement -/
def Res.bindS {β : Type} (r : Res β) (ρ : Env') (f : β → Store → Res Flow) : Res Flow := match r with
  | .ok a κ => f a κ
  | .exc c fs κ => .ok (.exc c fs ρ) κ
  | .bad => .bad
@[simp] theorem Res.bindS_ok {β : Type} (a : β) (κ : Store) (ρ : Env') (f : β → Store → Res Flow) : (Res.ok a κ).bindS ρ f = f a κ := rfl
@[simp] theorem Res.bindS_exc {β : Type} (c : Str) (fs : List (Str × D)) (κ : Store) (ρ : Env') (f : β → Store → Res Flow) : (Res.exc c fs κ : Res β).bindS ρ f = .ok (.exc c fs ρ) κ := rfl
@[simp] theorem Res.bindS_bad {β : Type} (ρ : Env') (f : β → Store → Res Flow) : (Res.bad : Res β).bindS ρ f = .bad := rfl
def forL (J : Itm) (step : D → Env' → Store → Res Flow) : Nat → Env' → Store → Res Flow
  | 0, ρ, κ => if J.fin κ then .ok (.next ρ) κ else .bad
  | k + 1, ρ, κ => match J.get (J.len - (k + 1)) κ with
    | none => .bad
    | some d => (step d ρ κ).bind fun f κ1 => match f with
      | .next ρ' => forL J step k ρ' κ1
      | .cont ρ' => forL J step k ρ' κ1
      | .brk ρ' => .ok (.next ρ') κ1
      | f => .ok f κ1
def bindR (t : Tg) (d : D) (ρ : Env') (κ : Store) : Res Flow := match bindT t d ρ with
  | some ρ' => .ok (.next ρ') κ
  | none => .bad
/-- a cell with a list -/
def opIsL (o : D) (κ : Store) : Res Unit := match o with
  | .cell c => (match κ[c]? with
    | some (.lst _) => .ok () κ
    | _ => .bad)
  | _ => .bad
/-- o.append(v) -/
def opApp (o v : D) (κ : Store) : Res Unit := match o with
  | .cell c => (match κ[c]? with
    | some (.lst xs) => if 16777216 ≤ xs.length then .bad else .ok () (κ.set c (.lst (xs ++ [v])))
    | _ => .bad)
  | _ => .bad
/-- x += v -/
def opAug (d e : D) (κ : Store) : Res D := match d, e with
  | .int i, .int j => .ok (.int (i + j)) κ
  | _, _ => .bad

/-- how an attribute of an instance is read -/
inductive AttK where
  | no | fld | con (d : D) | prop
def AttK.isF : AttK → Bool
  | .fld => true
  | _ => false
/-- a part of an own exception's text: a text; a parameter -/
inductive Pt where
  | s (x : Str) | v (i : Nat)
/-- an own exception's __init__: the attributes, one for each parameter; the text that the base's __init__ takes -/
structure XI where
  fs : List Str
  pt : List Pt
/-- may the text be made -/
def Pt.ok (ds : List D) : List Pt → Nat → Bool
  | [], n => decide (n ≤ 16777216)
  | .s x :: ps, n => Pt.ok ds ps (n + x.length)
  | .v i :: ps, n => (match ds[i]? with
    | some (.str y) => Pt.ok ds ps (n + y.length)
    | some (.int j) => decide (-big < j ∧ j < big) && Pt.ok ds ps (n + 62)
    | _ => false)
def XI.ok (x : XI) (ds : List D) : Bool := decide (ds.length = x.fs.length) && decide (ds.length ≤ 100) && Pt.ok ds x.pt 0
/-- f'{x}' -/
def opFmt (d : D) (κ : Store) : Res D := match d with
  | .str y => if y.length ≤ 16777216 then .ok (.str y) κ else .bad
  | .int i => if -big < i ∧ i < big then .ok (.str (Str.ofString (toString i))) κ else .bad
  | _ => .bad
/-- what a body may lean on: data of the module, class constants, calls, calls from within a built-in, attributes, methods, classes -/
structure Gam where
  glob : Str → Option D
  cat : Str → Str → Option D
  call : Str → List D → Store → Res D
  low : Str → List D → Store → Res D
  att : Str → Str → AttK
  isM : Str → Str → Bool
  isC : Str → Bool
  /-- classes that may be asked for; an instance's class against a built-in type, a built-in type against a class, a class against a class -/
  kC : Str → Bool
  kI : Str → Ty → Option Bool
  kB : String → Str → Option Bool
  kO : Str → Str → Option Bool
  /-- own exceptions; an own exception against a clause's class; against isinstance's class; the caught one -/
  xc : Str → Option XI := fun _ => none
  kX : Str → Str → Option Bool := fun _ _ => none
  kY : Str → Str → Option Bool := fun _ _ => none
  xa : Str → Str → Bool := fun _ _ => false
  kN : Str → Bool := fun _ => false
  exn : Option (Nat × Nat × Str) := none
  /-- calls two levels below; classes whose instances may be compared -/
  lo2 : Str → List D → Store → Res D := fun _ _ _ => .bad
  kE : Str → Bool := fun _ => false
/-- isinstance(x, T) -/
def opIsT (G : Gam) (t : Ty) (x : D) (κ : Store) : Option Bool := match insOf κ x with
  | some (c, _) => G.kI c t
  | none => isTy t x κ
/-- isinstance(x, C) -/
def opIsC (G : Gam) (c : Str) (x : D) (κ : Store) : Option Bool := match insOf κ x with
  | some (c', _) => G.kO c' c
  | none => (tyName x κ).bind fun n => G.kB n c
/-- x.f -/
def opAttr (G : Gam) (x : D) (f : Str) (κ : Store) : Res D := match insOf κ x with
  | some (c, fs) => (match G.att c f with
    | .fld => (match fs.lookup f with | some d => .ok d κ | none => .bad)
    | .con d => (match fs.lookup f with | some _ => .bad | none => .ok d κ)
    | .prop => (G.low (c ++ "." ++ f) [x] κ).nox
    | .no => .bad)
  | none => .bad
/-- is m a method of x -/
def opMeth (G : Gam) (x : D) (m : Str) (κ : Store) : Res Str := match insOf κ x with
  | some (c, fs) => if G.isM c m = true ∧ fs.lookup m = none then .ok (c ++ "." ++ m) κ else .bad
  | none => .bad
/-- may it stand to the right of an instance of c's == -/
def eqTy (c : Str) (y : D) (κ : Store) : Bool := match insOf κ y with
  | some (c', _) => c' == c
  | none => (tyName y κ).isSome
/-- x == y; x != y -/
def opEqo (G : Gam) (n : Bool) (x y : D) (κ : Store) : Res D := match insOf κ x with
  | some (c, _) => if (G.kE c = true ∧ G.isM c "__eq__" = true) ∧ eqTy c y κ = true then (match n with
    | false => (G.call (c ++ "." ++ "__eq__") [x, y] κ).nox.bind fun r κ => (match r with | .bl b => .ok (.bl b) κ | _ => .bad)
    | true => (G.low (c ++ "." ++ "__eq__") [x, y] κ).nox.bind fun r κ => (match r with | .bl b => .ok (.bl (!b)) κ | _ => .bad)) else .bad
  | none => opCmp (match n with | true => .ne | false => .eq) x y κ
/-- str(x) -/
def opStro (G : Gam) (x : D) (κ : Store) : Res D := match insOf κ x with
  | some (c, _) => if G.isM c "__str__" = true then (G.lo2 (c ++ "." ++ "__str__") [x] κ).nox.bind fun r κ => (match r with | .str z => .ok (.str z) κ | _ => .bad) else .bad
  | none => opF1 .str x κ
/-- is it one of the method's type -/
def opTy (m : BM) (x : D) (κ : Store) : Res Unit := match m, x with
  | _, .str _ => .ok () κ
  | _, _ => .bad
/-- a method of a built-in type -/
def opBM (m : BM) (x : D) (ds : List D) (κ : Store) : Res D := match m, x, ds with
  | .starts, .str z, [.str y] => .ok (.bl (Txt.startswith z y)) κ
  | .split2, .str z, [.str y, .int k] => if (y.length == 0) = false ∧ (-(2 ^ 63) ≤ k ∧ k < 2 ^ 63) ∧ z.length + 2 ≤ 16777216 then .ok (.lst ((Txt.splitMax z y k).map D.str)) κ else .bad
  | _, _, _ => .bad
/-- what C(..) hands back -/
def endMake (n : Nat) (md : Mode) (r : D) (κ : Store) : Res D := match r with
  | .non => finish n md (.cell n) κ
  | _ => .bad

mutual
def ev (G : Gam) : E → Env' → Store → Res D
  | .bad, _, _ => .bad
  | .var i, ρ, κ => (match ρ[i]? with | some (some d) => .ok d κ | _ => .bad)
  | .fzv _, _, _ => .bad
  | .non, _, κ => .ok .non κ
  | .bl b, _, κ => .ok (.bl b) κ
  | .int i, _, κ => .ok (.int i) κ
  | .str x, _, κ => .ok (.str x) κ
  | .glob x, _, κ => (match G.glob x with | some d => .ok d κ | none => .bad)
  | .cat c a, _, κ => (match G.cat c a with | some d => .ok d κ | none => .bad)
  | .bin o a b, ρ, κ => (ev G a ρ κ).bind fun x κ => (ev G b ρ κ).bind fun y κ => opBin o x y κ
  | .neg a, ρ, κ => (ev G a ρ κ).bind fun x κ => (match x with | .int i => .ok (.int (-i)) κ | _ => .bad)
  | .not a, ρ, κ => (ev G a ρ κ).bind fun x κ => (match x with | .bl b => .ok (.bl (!b)) κ | _ => .bad)
  | .cmp o a b, ρ, κ => (ev G a ρ κ).bind fun x κ => (ev G b ρ κ).bind fun y κ => opCmp o x y κ
  | .cmp2 o o2 a b c, ρ, κ => (ev G a ρ κ).bind fun x κ => (ev G b ρ κ).bind fun y κ => (opCmp o x y κ).bind fun z κ => (match z with
    | .bl true => (ev G c ρ κ).bind fun w κ => opCmp o2 y w κ
    | .bl false => .ok (.bl false) κ
    | _ => .bad)
  | .and a b, ρ, κ => (ev G a ρ κ).bind fun x κ => (match x with
    | .bl true => ev G b ρ κ
    | .bl false => .ok (.bl false) κ
    | _ => .bad)
  | .or a b, ρ, κ => (ev G a ρ κ).bind fun x κ => (match x with
    | .bl true => .ok (.bl true) κ
    | .bl false => ev G b ρ κ
    | _ => .bad)
  | .one a, ρ, κ => ev G a ρ κ
  | .ife c a b, ρ, κ => (evT G c ρ κ).bind fun t κ => (match t with
    | true => ev G a ρ κ
    | false => ev G b ρ κ)
  | .tup es, ρ, κ => (evL G es ρ κ).bind fun ds κ => if ds.length ≤ 16777216 then .ok (.tup ds) κ else .bad
  | .lst es, ρ, κ => (evL G es ρ κ).bind fun ds κ => if ds.length ≤ 16777216 then .ok (.lst ds) κ else .bad
  | .lstC es, ρ, κ => (evL G es ρ κ).bind fun ds κ => if ds.length ≤ 16777216 then .ok (.cell κ.length) (κ ++ [.lst ds]) else .bad
  | .sub a i, ρ, κ => (ev G a ρ κ).bind fun x κ => (ev G i ρ κ).bind fun y κ => opSub x y κ
  | .f1 f a, ρ, κ => (ev G a ρ κ).bind fun x κ => opF1 f x κ
  | .max2 a b, ρ, κ => (ev G a ρ κ).bind fun x κ => (ev G b ρ κ).bind fun y κ => (match x, y with | .int i, .int j => .ok (.int (if j > i then j else i)) κ | _, _ => .bad)
  | .min2 a b, ρ, κ => (ev G a ρ κ).bind fun x κ => (ev G b ρ κ).bind fun y κ => (match x, y with | .int i, .int j => .ok (.int (if j < i then j else i)) κ | _, _ => .bad)
  | .isin a t, ρ, κ => (ev G a ρ κ).bind fun x κ => (match opIsT G t x κ with | some b => .ok (.bl b) κ | none => .bad)
  | .isown a t, ρ, κ => if G.kC t = true then (ev G a ρ κ).bind fun x κ => (match opIsC G t x κ with | some b => .ok (.bl b) κ | none => .bad) else .bad
  | .call f es, ρ, κ => (evL G es ρ κ).bind fun ds κ => G.call f ds κ
  | .scall c m es, ρ, κ => (evL G es ρ κ).bind fun ds κ => G.call (c ++ "." ++ m) ds κ
  | .join a b, ρ, κ => (ev G a ρ κ).bind fun x κ => (match x with
    | .str z => (ev G b ρ κ).bind fun y κ => opJoin (.str z) y κ
    | _ => .bad)
  | .comp t s c e own, ρ, κ => (evSrc G s ρ κ).bind fun J κ => if J.len ≤ 16777216 then (compL J (fun d κ => match bindT t d (wipeE ρ own) with
      | none => .bad
      | some ρ' => (evC G c ρ' κ).bind fun b κ => (match b with
        | true => (ev G e ρ' κ).bind fun x κ => .ok (some x) κ
        | false => .ok none κ)) J.len [] κ).nox.bind fun ds κ => .ok (.lst ds) κ else .bad
  | .attr a f, ρ, κ => (ev G a ρ κ).bind fun x κ => opAttr G x f κ
  | .meth a m es, ρ, κ => (ev G a ρ κ).bind fun x κ => (opMeth G x m κ).bind fun g κ => (evL G es ρ κ).bind fun ds κ => G.call g (x :: ds) κ
  | .slice a lo hi, ρ, κ => (ev G a ρ κ).bind fun x κ => (if partE lo = true then .ok none κ else (ev G lo ρ κ).bind fun l κ => opPart l κ).bind fun l κ => (if partE hi = true then .ok none κ else (ev G hi ρ κ).bind fun h κ => opPart h κ).bind fun h κ => opSlice x l h κ
  | .make c es md, ρ, κ => if G.isC c = true then (evL G es ρ κ).bind fun ds κ => (G.low (c ++ ".__init__") (.cell κ.length :: ds) (κ ++ [.ins c []])).bind fun r κ' => endMake κ.length md r κ' else .bad
  | .dic es, ρ, κ => (evL G es ρ κ).bind fun ds κ => opDic ds κ
  | .xfld i f, ρ, κ => (match ρ[i]? with
    | some (some (.exn a dx c fs)) => if G.exn = some (a, dx, c) ∧ G.xa c f = true then (match fs.lookup f with | some d => .ok d κ | none => .bad) else .bad
    | _ => .bad)
  | .xis i y, ρ, κ => (match ρ[i]? with
    | some (some (.exn a dx c _)) => if G.exn = some (a, dx, c) then (match G.kY c y with | some b => .ok (.bl b) κ | none => .bad) else .bad
    | _ => .bad)
  | .fmt a, ρ, κ => (ev G a ρ κ).bind fun x κ => opFmt x κ
  | .joined es, ρ, κ => evJ G es Str.empty ρ κ
  | .rev a, ρ, κ => (ev G a ρ κ).bind fun x κ => opRev x κ
  | .eqo n a b, ρ, κ => (ev G a ρ κ).bind fun x κ => (ev G b ρ κ).bind fun y κ => opEqo G n x y κ
  | .stro a, ρ, κ => (ev G a ρ κ).bind fun x κ => opStro G x κ
  | .bm m a es, ρ, κ => (ev G a ρ κ).bind fun x κ => (opTy m x κ).bind fun _ κ => (evL G es ρ κ).bind fun ds κ => opBM m x ds κ
def evL (G : Gam) : List E → Env' → Store → Res (List D)
  | [], _, κ => .ok [] κ
  | e :: es, ρ, κ => (ev G e ρ κ).bind fun x κ => (evL G es ρ κ).bind fun xs κ => .ok (x :: xs) κ
/-- texts one behind the other -/
def evJ (G : Gam) : List E → Str → Env' → Store → Res D
  | [], acc, _, κ => .ok (.str acc) κ
  | e :: es, acc, ρ, κ => (ev G e ρ κ).bind fun x κ => (match x with
    | .str y => if (acc ++ y).length ≤ 16777216 then evJ G es (acc ++ y) ρ κ else .bad
    | _ => .bad)
/-- a comprehension's tests -/
def evC (G : Gam) : List T → Env' → Store → Res Bool
  | [], _, κ => .ok true κ
  | [c], ρ, κ => evT G c ρ κ
  | _, _, _ => .bad
def evSrc (G : Gam) : Src → Env' → Store → Res Itm
  | .val e, ρ, κ => (ev G e ρ κ).bind fun x κ => (match itemsOf x κ with | some J => .ok J κ | none => .bad)
  | .rng1 e, ρ, κ => (ev G e ρ κ).bind fun x κ => (match x with
    | .int n => if -1000000000 < n ∧ n < 1000000000 then .ok (.fix (rangeD 0 n.toNat)) κ else .bad
    | _ => .bad)
  | .rng2 a b, ρ, κ => (ev G a ρ κ).bind fun x κ => (ev G b ρ κ).bind fun y κ => (match x, y with
    | .int m, .int n => if (-1000000000 < m ∧ m < 1000000000) ∧ (-1000000000 < n ∧ n < 1000000000) then .ok (.fix (rangeD m (n - m).toNat)) κ else .bad
    | _, _ => .bad)
/-- a test's answer -/
def evT (G : Gam) : T → Env' → Store → Res Bool
  | .e a, ρ, κ => (ev G a ρ κ).bind fun x κ => (match truth x κ with | some b => .ok b κ | none => .bad)
  | .cmp o a b, ρ, κ => ((ev G a ρ κ).bind fun x κ => (ev G b ρ κ).bind fun y κ => opCmp o x y κ).bind fun x κ => (match truth x κ with | some b => .ok b κ | none => .bad)
  | .cmp2 o o2 a b c, ρ, κ => ((ev G a ρ κ).bind fun x κ => (ev G b ρ κ).bind fun y κ => (opCmp o x y κ).bind fun z κ => (match z with
    | .bl true => (ev G c ρ κ).bind fun w κ => opCmp o2 y w κ
    | .bl false => .ok (.bl false) κ
    | _ => .bad)).bind fun x κ => (match truth x κ with | some b => .ok b κ | none => .bad)
  | .not a, ρ, κ => (evT G a ρ κ).bind fun b κ => .ok (!b) κ
  | .and a b, ρ, κ => (evT G a ρ κ).bind fun t κ => (match t with
    | true => evT G b ρ κ
    | false => .ok false κ)
  | .or a b, ρ, κ => (evT G a ρ κ).bind fun t κ => (match t with
    | true => .ok true κ
    | false => evT G b ρ κ)
  | .one a, ρ, κ => evT G a ρ κ
  | .ife c a b, ρ, κ => (evT G c ρ κ).bind fun t κ => (match t with
    | true => evT G a ρ κ
    | false => evT G b ρ κ)
  | .eqo n a b, ρ, κ => ((ev G a ρ κ).bind fun x κ => (ev G b ρ κ).bind fun y κ => opEqo G n x y κ).bind fun x κ => (match truth x κ with | some b => .ok b κ | none => .bad)
end
/-- a clause's suite: where the exception stands is of no matter -/
noncomputable def hand (r : Nat → Nat → Res Flow) : Res Flow := open Classical in if ∀ a dx, r a dx = r 0 0 then r 0 0 else .bad
/-- a clause's end: its name is gone -/
def endH (n : Option Nat) (f : Flow) (κ : Store) : Res Flow := match n with
  | none => (match f with
    | .exc _ _ _ => .bad
    | f => .ok f κ)
  | some i => (match f with
    | .next ρ => .ok (.next (ρ.set i none)) κ
    | .ret d => .ok (.ret d) κ
    | .brk ρ => .ok (.brk (ρ.set i none)) κ
    | .cont ρ => .ok (.cont (ρ.set i none)) κ
    | .exc _ _ _ => .bad)
def startH (n : Option Nat) (d : D) (ρ : Env') : Env' := match n with
  | none => ρ
  | some i => ρ.set i (some d)
mutual
noncomputable def evS (G : Gam) : S → Env' → Store → Res Flow
  | .bad, _, _ => .bad
  | .pass, ρ, κ => .ok (.next ρ) κ
  | .brk, ρ, κ => .ok (.brk ρ) κ
  | .cont, ρ, κ => .ok (.cont ρ) κ
  | .asg t e, ρ, κ => (ev G e ρ κ).bindS ρ fun x κ => bindR t x ρ κ
  | .expr e, ρ, κ => (ev G e ρ κ).bindS ρ fun _ κ => .ok (.next ρ) κ
  | .ret e, ρ, κ => (ev G e ρ κ).bindS ρ fun x κ => .ok (.ret x) κ
  | .retN, _, κ => .ok (.ret .non) κ
  | .ifs c a b, ρ, κ => (evT G c ρ κ).bindS ρ fun t κ => (match t with
    | true => evSs G a ρ κ
    | false => evSs G b ρ κ)
  | .for_ t s b, ρ, κ => (evSrc G s ρ κ).bindS ρ fun J κ => forL J (fun d ρ κ => match bindT t d ρ with
      | none => .bad
      | some ρ' => evSs G b ρ' κ) J.len ρ κ
  | .setI o i e, ρ, κ => (ev G e ρ κ).bindS ρ fun v κ => (ev G o ρ κ).bindS ρ fun x κ => (ev G i ρ κ).bindS ρ fun y κ => (opSetI x y v κ).bindS ρ fun _ κ => .ok (.next ρ) κ
  | .setA o f e, ρ, κ => (ev G e ρ κ).bindS ρ fun v κ => (ev G o ρ κ).bindS ρ fun x κ => (opSetA (fun c f => (G.att c f).isF) x f v κ).bindS ρ fun _ κ => .ok (.next ρ) κ
  | .app o e, ρ, κ => (ev G o ρ κ).bindS ρ fun x κ => (opIsL x κ).bindS ρ fun _ κ => (ev G e ρ κ).bindS ρ fun v κ => (opApp x v κ).bindS ρ fun _ κ => .ok (.next ρ) κ
  | .par i j a b, ρ, κ => (ev G a ρ κ).bindS ρ fun x κ => (ev G b ρ κ).bindS ρ fun y κ => .ok (.next ((ρ.set i (some x)).set j (some y))) κ
  | .par3 i j l a b c, ρ, κ => (ev G a ρ κ).bindS ρ fun x κ => (ev G b ρ κ).bindS ρ fun y κ => (ev G c ρ κ).bindS ρ fun z κ => .ok (.next (((ρ.set i (some x)).set j (some y)).set l (some z))) κ
  | .aug i e, ρ, κ => (match ρ[i]? with
    | some (some d) => (ev G e ρ κ).bindS ρ fun x κ => (opAug d x κ).bindS ρ fun y κ => .ok (.next (ρ.set i (some y))) κ
    | _ => .bad)
  | .setN o i j a b, ρ, κ => (ev G (.tup [a, b]) ρ κ).bindS ρ fun t κ => (match t with
    | .tup [v, w] => (ev G o ρ κ).bindS ρ fun x κ => (ev G i ρ κ).bindS ρ fun y κ => (opSetI x y v κ).bindS ρ fun _ κ => .ok (.next (ρ.set j (some w))) κ
    | _ => .bad)
  | .raise c es, ρ, κ => (match G.xc c with
    | some xi => (evL G es ρ κ).bindS ρ fun ds κ => if xi.ok ds = true then .ok (.exc c (xi.fs.zip ds).reverse ρ) κ else .bad
    | none => .bad)
  | .try_ b c n h, ρ, κ => if G.kN c = true then (evSs G b ρ κ).bind fun f κ1 => (match f with
    | .exc c' fs ρ' => (match G.kX c' c with
      | some true => hand fun a dx => (evSs { G with exn := some (a, dx, c') } h (startH n (.exn a dx c' fs) ρ') κ1).bind (endH n)
      | some false => .ok (.exc c' fs ρ') κ1
      | none => .bad)
    | f => .ok f κ1) else .bad
noncomputable def evSs (G : Gam) : List S → Env' → Store → Res Flow
  | [], ρ, κ => .ok (.next ρ) κ
  | s :: ss, ρ, κ => (evS G s ρ κ).bind fun f κ => (match f with
    | .next ρ' => evSs G ss ρ' κ
    | f => .ok f κ)
end

/-- a def: its name with the class ahead, how many slots, how many parameters, body; it hands back a new cell -/
structure Fn where
  slots : Nat
  params : Nat
  body : List S
  mode : Mode := .tree
  /-- defaults of the last parameters -/
  dfl : List D := []
/-- the written arguments, the defaults behind -/
def Fn.fill (d : Fn) (ds : List D) : List D := ds ++ d.dfl.drop (d.dfl.length + ds.length - d.params)
structure Pgm where
  glob : Str → Option D
  cat : Str → Str → Option D
  fn : Str → Option Fn
  att : Str → Str → AttK := fun _ _ => .no
  isM : Str → Str → Bool := fun _ _ => false
  isC : Str → Bool := fun _ => false
  kC : Str → Bool := fun _ => false
  kI : Str → Ty → Option Bool := fun _ _ => none
  kB : String → Str → Option Bool := fun _ _ => none
  kO : Str → Str → Option Bool := fun _ _ => none
  xc : Str → Option XI := fun _ => none
  kX : Str → Str → Option Bool := fun _ _ => none
  kY : Str → Str → Option Bool := fun _ _ => none
  xa : Str → Str → Bool := fun _ _ => false
  kN : Str → Bool := fun _ => false
  kE : Str → Bool := fun _ => false
/-- the end of a def -/
def endD (n : Nat) (m : Mode) (f : Flow) (κ : Store) : Res D := match f with
  | .ret x => finish n m x κ
  | .next _ => finish n m .non κ
  | .exc c fs _ => if κ.length = n then .exc c fs κ else
    match closedF n fs && closedL n (κ.take n) with
    | true => .exc c fs (κ.take n)
    | false => .bad
  | _ => .bad
abbrev CallF : Type := Str → List D → Store → Res D
noncomputable def bodyF (P : Pgm) (x : Str → Option XI) (c l l2 : CallF) : CallF := fun f ds κ => match P.fn f with
  | none => .bad
  | some d => if (d.fill ds).length = d.params then
      (evSs ⟨P.glob, P.cat, c, l, P.att, P.isM, P.isC, P.kC, P.kI, P.kB, P.kO, x, P.kX, P.kY, P.xa, P.kN, none, l2, P.kE⟩ d.body ((d.fill ds).map some ++ List.replicate (d.slots - d.params) none) κ).nox.bind (endD κ.length d.mode)
    else .bad
/-- at a level: the calls of a body, the calls from within a built-in -/
def Pgm.xcN (P : Pgm) : Nat → Str → Option XI
  | n + 2 => P.xc
  | _ => fun _ => none
noncomputable def runs (P : Pgm) : Nat → CallF × CallF × CallF
  | 0 => (fun _ _ _ => .bad, fun _ _ _ => .bad, fun _ _ _ => .bad)
  | n + 1 => (bodyF P (P.xcN n) (runs P n).1 (runs P n).2.1 (runs P n).2.2, (runs P n).1, (runs P n).2.1)
noncomputable def run0 (P : Pgm) (n : Nat) : CallF := (runs P n).1
noncomputable def Pgm.low (P : Pgm) (n : Nat) : CallF := (runs P n).2.1
noncomputable def Pgm.lo2 (P : Pgm) (n : Nat) : CallF := (runs P n).2.2
noncomputable def Pgm.gam (P : Pgm) (n : Nat) : Gam := ⟨P.glob, P.cat, run0 P n, P.low n, P.att, P.isM, P.isC, P.kC, P.kI, P.kB, P.kO, P.xcN n, P.kX, P.kY, P.xa, P.kN, none, P.lo2 n, P.kE⟩
end I3

set_option Elab.async false
set_option linter.all false
set_option autoImplicit false
set_option maxRecDepth 100000
set_option maxHeartbeats 1000000
/-! I3d: operations by values are what the evaluator says. -/
namespace I3
open PySem PySem.Spec PyProof.Rows L2

/-- an outcome without an exception -/
def PostP (K : PySem.W.Frag) (B : Hp) (α : List Addr) (F : Hp) (Q : VK) : Res D → Prop
  | .ok d κ => ∀ v H' α' F', AExt α α' → FExt F F' → St K B α' F' κ H' → Rep K α' F' d v → Q v H'
  | _ => False
theorem PostP.post {K : PySem.W.Frag} {B : Hp} {W : WX} {σ : L2.St} {α : List Addr} {F : Hp} {Q : VK} {r : Res D} (h : Post K B W σ α F Q r) (n : ∀ c fs κ, r ≠ .exc c fs κ) : PostP K B α F Q r := by
  cases r with
  | ok d κ => exact h
  | exc c fs κ => exact absurd rfl (n c fs κ)
  | bad => exact h
/-- a two-place operation, by values -/
def r2S (K : PySem.W.Frag) (f : D → D → Store → Res D) : R2 := fun x y H Q => ∃ B α F κ d e, St K B α F κ H ∧ Rep K α F d x ∧ Rep K α F e y ∧ PostP K B α F Q (f d e κ)
def r1S (K : PySem.W.Frag) (f : D → Store → Res D) : List V → Hp → VK → Prop := fun xs H Q => ∃ B α F κ d x, xs = [x] ∧ St K B α F κ H ∧ Rep K α F d x ∧ PostP K B α F Q (f d κ)
section
variable {K : PySem.W.Frag} {B : Hp} {α : List Addr} {F H : Hp} {κ : Store} {Q : VK} {x y : V} {d e : D}
theorem post_int {i : Int} (S : St K B α F κ H) (h : PostP K B α F Q (.ok (.int i) κ)) : Q (.int i) H := h _ H α F (AExt.refl α) (FExt.refl F) S rfl
theorem post_bl {i : Bool} (S : St K B α F κ H) (h : PostP K B α F Q (.ok (.bl i) κ)) : Q (.bl i) H := h _ H α F (AExt.refl α) (FExt.refl F) S rfl
theorem post_str {i : Str} (S : St K B α F κ H) (h : PostP K B α F Q (.ok (.str i) κ)) : Q (.str i) H := h _ H α F (AExt.refl α) (FExt.refl F) S rfl
theorem post_val {v : V} (S : St K B α F κ H) (r : Rep K α F d v) (h : PostP K B α F Q (.ok d κ)) : Q v H := h _ H α F (AExt.refl α) (FExt.refl F) S r
/-- a scalar's value -/
def scalD : D → Option V
  | .non => some .non
  | .bl b => some (.bl b)
  | .int i => some (.int i)
  | .str s => some (.str s)
  | _ => none
theorem Rep.scal {v : V} (h : scalD d = some v) (r : Rep K α F d x) : x = v := by
  cases d <;> first | (cases h; exact r) | cases h
/-- what stands for a list: SqL of H; for a tuple: SqT of H -/
theorem seq_rep (S : St K B α F κ H) (r : Rep K α F d x) :
    (∀ xs, cellOf κ d = .lst xs → ∃ a vs, x = .ref a ∧ SqL K H a vs ∧ RepL K α F xs vs) ∧ (∀ xs, cellOf κ d = .tup xs → ∃ a vs, x = .ref a ∧ SqT K H a vs ∧ RepL K α F xs vs) ∧
    (∀ z, cellOf κ d = .str z → x = .str z) ∧ (∀ i, cellOf κ d = .int i → x = .int i) ∧ (∀ i, cellOf κ d = .bl i → x = .bl i) := by
  cases d with
  | cell i =>
    unfold Rep at r
    obtain ⟨a, ha, rfl⟩ := r
    have e0 : cellOf κ (.cell i) = liveOr κ[i]? := rfl
    rw [e0]
    have hc := fun d => S.cel i a d ha
    cases q : κ[i]? with
    | none => exact ⟨fun xs e => (by cases e), fun xs e => (by cases e), fun xs e => (by cases e), fun xs e => (by cases e), fun xs e => (by cases e)⟩
    | some o =>
      cases o with
      | lst ds =>
        refine ⟨fun xs e => ?_, fun xs e => (by cases e), fun xs e => (by cases e), fun xs e => (by cases e), fun xs e => (by cases e)⟩
        cases e
        obtain ⟨vs, q1, r⟩ := hc _ q
        exact ⟨a, vs, rfl, SqL.of q1, r⟩
      | _ => exact ⟨fun xs e => (by cases e), fun xs e => (by cases e), fun xs e => (by cases e), fun xs e => (by cases e), fun xs e => (by cases e)⟩
  | lst ds =>
    unfold Rep at r
    obtain ⟨a, vs, rfl, s, r⟩ := r
    refine ⟨fun xs e => ?_, fun xs e => ?_, fun z e => ?_, fun z e => ?_, fun z e => ?_⟩
    · cases e
      exact ⟨a, vs, rfl, S.sqL s, r⟩
    all_goals cases e
  | tup ds =>
    unfold Rep at r
    obtain ⟨a, vs, rfl, s, r⟩ := r
    refine ⟨fun xs e => ?_, fun xs e => ?_, fun z e => ?_, fun z e => ?_, fun z e => ?_⟩
    · cases e
    · cases e
      exact ⟨a, vs, rfl, S.sqT s, r⟩
    all_goals cases e
  | str s =>
    refine ⟨fun xs e => ?_, fun xs e => ?_, fun z e => ?_, fun z e => ?_, fun z e => ?_⟩ <;> first | (cases e; exact r) | cases e
  | int s =>
    refine ⟨fun xs e => ?_, fun xs e => ?_, fun z e => ?_, fun z e => ?_, fun z e => ?_⟩ <;> first | (cases e; exact r) | cases e
  | bl s =>
    refine ⟨fun xs e => ?_, fun xs e => ?_, fun z e => ?_, fun z e => ?_, fun z e => ?_⟩ <;> first | (cases e; exact r) | cases e
  | _ => exact ⟨fun xs e => (by cases e), fun xs e => (by cases e), fun xs e => (by cases e), fun xs e => (by cases e), fun xs e => (by cases e)⟩
end

/-! ### operations -/
def Bop.op : Bop → Operator
  | .add => .Add
  | .sub => .Sub
  | .mul => .Mult
  | .fdiv => .FloorDiv
  | .mod => .Mod
  | .pow => .Pow
  | .band => .BitAnd
def Cop.op : Cop → CmpOp
  | .eq => .Eq
  | .ne => .NotEq
  | .lt => .Lt
  | .le => .LtE
  | .gt => .Gt
  | .ge => .GtE
  | .isn => .Is
  | .notn => .IsNot
  | .inn => .In
  | .ntn => .NotIn
theorem big_lt {i : Int} (h1 : -big < i) (h2 : i < big) : i.natAbs < 2 ^ 201 := by
  unfold big at h1 h2
  have : i.natAbs < 1606938044258990275541962092341162602522202993782792835301376 := by omega
  exact Nat.lt_trans this (by decide)
section
variable {X : Cx}
/-- two lists, one behind the other -/
def rCatL (K : PySem.W.Frag) : R2 := fun x y H Q => ∃ a b xs ys, (x = .ref a ∧ y = .ref b) ∧ (SqL K H a xs ∧ SqL K H b ys) ∧ xs.length + ys.length ≤ sizeLine ∧ ∀ p, H p = none → Q (.ref p) (upd H p (.lst (xs ++ ys)))
theorem op_catL : OpR X (binaryOp .Add) (rCatL X.K) := by
  intro pins s σ H x y v u Q I rx ry ⟨a, b, xs, ys, ⟨ex, ey⟩, ⟨ha, hb⟩, hz, q⟩
  subst ex ey
  cases rx
  cases ry
  obtain ⟨us, ra, ⟨⟨c1, d1, t1, s1⟩, n1, e1, k1, f1, g1⟩, z1⟩ := I.list ha
  obtain ⟨ws, rb, ⟨⟨c2, d2, t2, s2⟩, n2, e2, k2, f2, g2⟩, z2⟩ := I.list hb
  dsimp only at k1 f1 g1 k2 f2 g2
  subst k1 f1 g1 k2 f2 g2
  have hl := ra.length
  have hl2 := rb.length
  have ht : us.toArray.size + ws.toArray.size ≤ sizeLine := by rw [List.size_toArray, List.size_toArray]; omega
  have hcat : us.toArray ++ ws.toArray = (us ++ ws).toArray := by simp
  refine concat_meets ⟨_, e1, rfl⟩ ⟨_, e2, rfl⟩ noFill_list_add seq_list_add F.slot_list_add F.entry_list_add (F.args_list_add_2 _ _) (list_addW a b us.toArray ws.toArray n1 n2 none none s1 s2 ht)
    ⟨e1, e2, ?_⟩
  rw [hcat]
  exact ⟨.ref _, _, I.lnew (t' := s.toks) (ra.append rb) (by rw [List.length_append]; exact hz), rfl, q _ I.fresh⟩
theorem fold_size (a : Array Nat) : ∀ (k : Nat) (acc : Array Nat), ((List.replicate k a).foldl (fun x1 x2 => x1 ++ x2) acc).size = acc.size + k * a.size
  | 0, acc => by simp
  | k + 1, acc => by
    rw [List.replicate_succ, List.foldl_cons, fold_size a k, Array.size_append, Nat.succ_mul]
    omega
theorem op_strRep : OpR X (binaryOp .Mult) (fun x y H Q => ∃ z n, x = .str z ∧ y = .int n ∧ (-1000 ≤ n ∧ n ≤ 1000000) ∧ z.length ≤ 16 ∧ Q (.str (strRep z n)) H) := by
  intro pins s σ H x y v u Q I rx ry ⟨z, n, ex, ey, hn, hz, q⟩
  subst ex ey
  obtain ⟨t, rfl⟩ := rx
  obtain ⟨t', rfl⟩ := ry
  have hs : sizeLine = 16777216 := sizeLine_eq
  refine PySem.P.mul_str ?_ ?_ ?_ ?_
  · rw [decide_eq_false (by omega), decide_eq_false (by omega)]; rfl
  · intro h1 _ h2
    have h3 : (9223372036854775807 : Int) / n ≥ 9223372036854 := by
      have : (9223372036854 : Int) * n ≤ 9223372036854775807 := by omega
      exact Int.le_ediv_of_mul_le (by omega) this
    have h4 : (2 ^ 63 - 1 : Int) = 9223372036854775807 := by decide
    rw [h4] at h2
    omega
  · intro h1 _
    have : z.length * n.toNat ≤ 16 * 1000000 := Nat.mul_le_mul hz (by omega)
    show decide (_ > sizeLine) = false
    rw [hs]
    exact decide_eq_false (by omega)
  · have q' : Q (.str (strRep z n)) H := q
    unfold strRep at q'
    by_cases c1 : n < 1
    · rw [if_pos c1] at q' ⊢
      exact ⟨by decide, ⟨.str _, H, I.tok _, ⟨_, rfl⟩, q'⟩⟩
    · rw [if_neg c1] at q' ⊢
      by_cases c2 : (n == 1 || z.length == 0) = true
      · rw [if_pos c2] at q' ⊢
        exact ⟨.str _, H, I, ⟨_, rfl⟩, q'⟩
      · rw [if_neg c2] at q' ⊢
        refine ⟨?_, ⟨.str _, H, I.tok _, ⟨_, rfl⟩, q'⟩⟩
        show ((List.replicate n.toNat z.cps).foldl (fun x1 x2 => x1 ++ x2) #[]).size ≤ sizeLine
        rw [fold_size, hs]
        have : n.toNat * z.cps.size ≤ 1000000 * 16 := Nat.mul_le_mul (by omega) hz
        show 0 + n.toNat * z.cps.size ≤ 16777216
        omega
theorem ok_sc (o : Bop) : OpR X (binaryOp o.op) (r2S X.K (scBin o)) := by
  intro pins s σ H x y v u Q I rx ry h
  obtain ⟨B, α, F, κ, d, e, S, r1, r2, q⟩ := h
  have hz : sizeLine = 16777216 := sizeLine_eq
  cases o <;> cases d <;> cases e <;> (first | (exact False.elim q) | skip)
  · obtain rfl := r1; obtain rfl := r2
    exact op_add pins s σ H _ _ v u Q I rx ry ⟨_, _, rfl, rfl, post_int S q⟩
  · obtain rfl := r1; obtain rfl := r2
    rename_i a b
    unfold scBin at q
    dsimp only at q
    by_cases c : a.length + b.length ≤ 16777216
    · rw [if_pos c] at q
      exact op_add_str pins s σ H _ _ v u Q I rx ry ⟨_, _, rfl, rfl, by rw [hz]; exact c, post_str S q⟩
    · rw [if_neg c] at q
      exact False.elim q
  · obtain rfl := r1; obtain rfl := r2
    exact op_sub pins s σ H _ _ v u Q I rx ry ⟨_, _, rfl, rfl, post_int S q⟩
  · obtain rfl := r1; obtain rfl := r2
    rename_i a b
    unfold scBin at q
    dsimp only at q
    by_cases c : (-big < a ∧ a < big) ∧ (-big < b ∧ b < big)
    · rw [if_pos c] at q
      exact op_mulW pins s σ H _ _ v u Q I rx ry ⟨_, _, rfl, rfl, wide_mul (big_lt c.1.1 c.1.2) (big_lt c.2.1 c.2.2) (by decide) (by decide) (by decide), post_int S q⟩
    · rw [if_neg c] at q
      exact False.elim q
  · obtain rfl := r1; obtain rfl := r2
    rename_i a b
    unfold scBin at q
    dsimp only at q
    by_cases c : 0 < b ∧ b < big
    · rw [if_pos c] at q
      exact op_fdivW pins s σ H _ _ v u Q I rx ry ⟨_, _, rfl, rfl, wide_div c.1 (big_lt (by have := c.1; unfold big; omega) c.2) (by decide) (by decide), post_int S q⟩
    · rw [if_neg c] at q
      exact False.elim q
  · obtain rfl := r1; obtain rfl := r2
    rename_i a b
    unfold scBin at q
    dsimp only at q
    by_cases c : 0 < b
    · rw [if_pos c] at q
      exact op_mod pins s σ H _ _ v u Q I rx ry ⟨_, _, rfl, rfl, c, post_int S q⟩
    · rw [if_neg c] at q
      exact False.elim q
  · obtain rfl := r1; obtain rfl := r2
    rename_i a b
    unfold scBin at q
    dsimp only at q
    by_cases c : (0 ≤ b ∧ b ≤ 100) ∧ (-18446744073709551616 < a ∧ a < 18446744073709551616)
    · rw [if_pos c] at q
      exact op_pow pins s σ H _ _ v u Q I rx ry ⟨_, _, rfl, rfl, ⟨c.1.1, by omega, by omega⟩, post_int S q⟩
    · rw [if_neg c] at q
      exact False.elim q
  · obtain rfl := r1; obtain rfl := r2
    rename_i a b
    unfold scBin at q
    dsimp only at q
    by_cases c : b = 1
    · rw [if_pos c] at q
      exact op_andM pins s σ H _ _ v u Q I rx ry ⟨a, 1, rfl, by rw [c]; rfl, post_int S q⟩
    · rw [if_neg c] at q
      exact False.elim q
theorem ok_bin (o : Bop) : OpR X (binaryOp o.op) (r2S X.K (opBin o)) := by
  intro pins s σ H x y v u Q I rx ry h
  obtain ⟨B, α, F, κ, d, e, S, r1, r2, q⟩ := h
  have hz : sizeLine = 16777216 := sizeLine_eq
  unfold opBin at q
  cases hq : seqBin o d e κ with
  | none =>
    rw [hq] at q
    exact ok_sc o pins s σ H x y v u Q I rx ry ⟨B, α, F, κ, d, e, S, r1, r2, q⟩
  | some r =>
    rw [hq] at q
    dsimp only at q
    unfold seqBin at hq
    split at hq
    · rename_i xs ys c1 c2
      cases hq
      obtain ⟨a, vs, rfl, sq, rl⟩ := (seq_rep S r1).1 _ c1
      obtain ⟨b, ws, rfl, sq2, rl2⟩ := (seq_rep S r2).1 _ c2
      by_cases c : xs.length + ys.length ≤ 16777216
      · rw [if_pos c] at q
        refine op_catL pins s σ H _ _ v u Q I rx ry ⟨a, b, vs, ws, ⟨rfl, rfl⟩, ⟨sq, sq2⟩, by rw [hz, ← rl.length, ← rl2.length]; exact c, fun p hp => ?_⟩
        refine q _ _ α (upd F p (.lst (vs ++ ws))) (AExt.refl _) (FExt.new (S.fresh hp)) (S.frozen hp) ?_
        unfold Rep
        exact ⟨p, vs ++ ws, rfl, SqL.of upd_same, (rl.append rl2).mono (AExt.refl _) (FExt.new (S.fresh hp))⟩
      · rw [if_neg c] at q
        exact False.elim q
    · rename_i z n c1 c2
      cases hq
      obtain rfl := (seq_rep S r1).2.2.1 _ c1
      obtain rfl := (seq_rep S r2).2.2.2.1 _ c2
      by_cases c : (-1000 ≤ n ∧ n ≤ 1000000) ∧ z.length ≤ 16
      · rw [if_pos c] at q
        exact op_strRep pins s σ H _ _ v u Q I rx ry ⟨z, n, rfl, rfl, c.1, c.2, post_str S q⟩
      · rw [if_neg c] at q
        exact False.elim q
    · cases hq
theorem scal_eq {K : PySem.W.Frag} {α : List Addr} {F : Hp} {d e : D} {x y : V} {b : Bool} (r1 : Rep K α F d x) (r2 : Rep K α F e y) (h : eqS d e = some b) : scal x y = true ∧ decide (x = y) = b := by
  cases d <;> cases e <;> (first | (cases h; done) | skip) <;> (obtain rfl := r1; obtain rfl := r2; cases h; refine ⟨rfl, ?_⟩) <;> (first | rfl | exact decide_eq_decide.mpr (by simp))
theorem ok_truth {K : PySem.W.Frag} {B : Hp} {α : List Addr} {F H : Hp} {κ : Store} {d : D} {x : V} {b : Bool} (S : St K B α F κ H) (r : Rep K α F d x) (h : truth d κ = some b) : TruV K x H b := by
  obtain ⟨h1, h2, h3, h4, h5⟩ := seq_rep S r
  unfold truth at h
  cases c : cellOf κ d with
  | non =>
    rw [c] at h; cases h
    cases d with
    | non => obtain rfl := r; rfl
    | cell i =>
      have c' : liveOr κ[i]? = .non := c
      cases q : κ[i]? with
      | none => rw [q] at c'; cases c'
      | some o => rw [q] at c'; cases o <;> cases c'
    | _ => cases c
  | bl b => rw [c] at h; cases h; rw [h5 _ c]; rfl
  | int i => rw [c] at h; cases h; rw [h4 _ c]; rfl
  | lst xs =>
    rw [c] at h; cases h
    obtain ⟨a, vs, rfl, sq, rl⟩ := h1 _ c
    refine .inl ⟨vs, sq, ?_⟩
    cases xs with
    | nil => unfold RepL at rl; rw [rl]; rfl
    | cons y ys => unfold RepL at rl; obtain ⟨v, r, e, _⟩ := rl; rw [e]; rfl
  | tup xs =>
    rw [c] at h; cases h
    obtain ⟨a, vs, rfl, sq, rl⟩ := h2 _ c
    refine .inr (.inl ⟨vs, sq, ?_⟩)
    cases xs with
    | nil => unfold RepL at rl; rw [rl]; rfl
    | cons y ys => unfold RepL at rl; obtain ⟨v, r, e, _⟩ := rl; rw [e]; rfl
  | _ => rw [c] at h; cases h

theorem RepL.atI {K : PySem.W.Frag} {α : List Addr} {F : Hp} {ds : List D} {vs : List V} {i : Int} {d : D} (r : RepL K α F ds vs) (h : L2.atI ds i = some d) : ∃ v, L2.atI vs i = some v ∧ Rep K α F d v := by
  unfold L2.atI at h ⊢
  rw [← r.length]
  cases c : ixN ds.length i with
  | none => rw [c] at h; cases h
  | some j =>
    rw [c] at h
    exact r.get h
theorem ok_ix : IxR X (r2S X.K ixSub) := by
  intro value slice pins s σ H x y v u Q I rx ry h hs
  obtain ⟨B, α, F, κ, d, e, S, r1, r2, q⟩ := h
  have hz : sizeLine = 16777216 := sizeLine_eq
  obtain ⟨h1, h2, h3, h4, h5⟩ := seq_rep S r1
  cases e <;> (first | (exact False.elim q) | skip)
  rename_i i
  obtain rfl := r2
  unfold ixSub at q
  dsimp only at q
  refine ix_seq value slice pins s σ H x _ v u Q I rx ry ?_ hs
  cases c : cellOf κ d with
  | lst xs =>
    rw [c] at q
    dsimp only at q
    obtain ⟨a, vs, rfl, sq, rl⟩ := h1 _ c
    cases b : L2.atI xs i with
    | none => rw [b] at q; exact False.elim q
    | some z =>
      rw [b] at q
      obtain ⟨w, e1, e2⟩ := rl.atI b
      exact .inl ⟨a, vs, i, w, rfl, rfl, sq, e1, post_val S e2 q⟩
  | tup xs =>
    rw [c] at q
    dsimp only at q
    obtain ⟨a, vs, rfl, sq, rl⟩ := h2 _ c
    cases b : L2.atI xs i with
    | none => rw [b] at q; exact False.elim q
    | some z =>
      rw [b] at q
      obtain ⟨w, e1, e2⟩ := rl.atI b
      exact .inr (.inl ⟨a, vs, i, w, rfl, rfl, sq, e1, post_val S e2 q⟩)
  | str z =>
    rw [c] at q
    dsimp only at q
    obtain rfl := h3 _ c
    by_cases l : z.length ≤ 16777216
    · rw [if_pos l] at q
      cases b : L2.atI z.cps.toList i with
      | none => rw [b] at q; exact False.elim q
      | some ch =>
        rw [b] at q
        exact .inr (.inr ⟨z, i, ch, rfl, rfl, by rw [hz]; exact l, b, post_str S q⟩)
    · rw [if_neg l] at q
      exact False.elim q
  | _ => rw [c] at q; exact False.elim q
theorem dic_rep {K : PySem.W.Frag} {B : Hp} {α : List Addr} {F H : Hp} {κ : Store} {d : D} {x : V} (S : St K B α F κ H) (r : Rep K α F d x) : ∀ kvs, cellOf κ d = .dic kvs → ∃ a us, x = .ref a ∧ Rd H a (.dK us) ∧ RepK K α F kvs us := by
  intro kvs e
  cases d with
  | cell i =>
    unfold Rep at r
    obtain ⟨a, ha, rfl⟩ := r
    have e' : liveOr κ[i]? = .dic kvs := e
    cases q : κ[i]? with
    | none => rw [q] at e'; cases e'
    | some o =>
      rw [q] at e'
      cases o <;> cases e'
      obtain ⟨us, q1, r⟩ := S.cel i a _ ha q
      exact ⟨a, us, rfl, .inl q1, r⟩
  | dic ks =>
    cases e
    unfold Rep at r
    obtain ⟨a, us, rfl, s, r⟩ := r
    exact ⟨a, us, rfl, S.rd s, r⟩
  | _ => cases e
theorem RepK.val {K : PySem.W.Frag} {α : List Addr} {F : Hp} {k : Key} {d : D} : ∀ {kvs : List (Key × D)} {us : List (Key × V)}, RepK K α F kvs us → valD kvs k = some d → ∃ v, valV us k = some v ∧ Rep K α F d v
  | [], us, h, e => by cases e
  | (k', x) :: kvs, us, h, e => by
    unfold RepK at h
    obtain ⟨v, r, rfl, h1, h2⟩ := h
    unfold valD at e
    by_cases c : k' = k
    · rw [if_pos c] at e
      cases e
      exact ⟨v, valV_pos c, h1⟩
    · rw [if_neg c] at e
      obtain ⟨w, e1, e2⟩ := RepK.val h2 e
      exact ⟨w, by rw [valV_neg c]; exact e1, e2⟩
theorem RepK.valN {K : PySem.W.Frag} {α : List Addr} {F : Hp} {k : Key} : ∀ {kvs : List (Key × D)} {us : List (Key × V)}, RepK K α F kvs us → valD kvs k = none → valV us k = none
  | [], us, h, e => by
    unfold RepK at h
    subst h
    rfl
  | (k', x) :: kvs, us, h, e => by
    unfold RepK at h
    obtain ⟨v, r, rfl, h1, h2⟩ := h
    unfold valD at e
    by_cases c : k' = k
    · rw [if_pos c] at e
      cases e
    · rw [if_neg c] at e
      rw [valV_neg c]
      exact RepK.valN h2 e
theorem ix_dicI (hu : X.A.units + 1 < cLine) : IxR X (fun x y H Q => ∃ a v, x = .ref a ∧ DGet H a y (some v) ∧ Q v H) := by
  intro value slice pins s σ H x y v u Q I rx ry ⟨a, z, ex, g, q⟩ hs
  subst ex
  obtain rfl : v = Value.ref a := rx
  have hT := dict_typeIs I g
  have key : wpAny (model X.prog X.w) X.A (getItem (.ref a) u) (fun r s₃ => wpAny (model X.prog X.w) X.A (letTemporaryGo value (.ref a) r >>= fun _ => pure r) (EP X pins σ Q) X.xe s₃) X.xe s :=
    d_getItem hu I g ry fun w' s' I' rw' => wpAny_bind (wpAny_letTemporaryGo (wpAny_pure ⟨z, H, I', rw', q⟩))
  unfold subscriptTail
  refine wpAny_bind ?_
  rw [getitemInPython_of_ne hT.not_modules]
  have fin : wpAny (model X.prog X.w) X.A (subscripted slice false (.ref a) u) (fun r s₃ => wpAny (model X.prog X.w) X.A (letTemporaryGo value (.ref a) r >>= fun _ => pure r) (EP X pins σ Q) X.xe s₃) X.xe s := by
    rw [hs]
    exact wpAny_operating key
  exact wpAny_bind (wpAny_specialOf hT PySem.F.slot_dict_getitem.lookup (by first | exact wpAny_pure (wpAny_bind fin) | exact wpAny_bind (wpAny_pure (wpAny_bind fin)) | exact wpAny_bind fin))
theorem keyD_kV {K : PySem.W.Frag} {α : List Addr} {F : Hp} {d : D} {k : Key} {v : V} (h : keyD d = some k) (r : Rep K α F d v) : v = kV k := by
  cases d <;> (first | (cases h; done) | skip) <;> (cases h; exact r)
theorem ok_sub (hu : X.A.units + 1 < cLine) : IxR X (r2S X.K opSub) := by
  intro value slice pins s σ H x y v u Q I rx ry h hs
  obtain ⟨B, α, F, κ, d, e, S, r1, r2, q⟩ := h
  unfold opSub at q
  split at q
  · rename_i kvs c
    obtain ⟨a, us, rfl, rd, rk⟩ := dic_rep S r1 kvs c
    unfold opKey at q
    cases hk : keyD e with
    | none => rw [hk] at q; exact False.elim q
    | some k =>
      rw [hk] at q
      dsimp only at q
      cases hv : valD kvs k with
      | none => rw [hv] at q; exact False.elim q
      | some z =>
        rw [hv] at q
        obtain ⟨w, e1, e2⟩ := rk.val hv
        exact ix_dicI hu value slice pins s σ H _ _ v u Q I rx ry ⟨a, w, rfl, .inl ⟨us, k, rd, keyD_kV hk r2, e1.symm⟩, post_val S e2 q⟩ hs
  · exact ok_ix value slice pins s σ H x y v u Q I rx ry ⟨B, α, F, κ, d, e, S, r1, r2, q⟩ hs
theorem asBools_rep {K : PySem.W.Frag} {α : List Addr} {F : Hp} : ∀ {ds : List D} {vs : List V} {bs : List Bool}, RepL K α F ds vs → asBools ds = some bs → vs = bs.map V.bl
  | [], vs, bs, r, h => by
    unfold RepL at r
    cases h
    exact r
  | d :: ds, vs, bs, r, h => by
    unfold RepL at r
    obtain ⟨v, t, rfl, r1, r2⟩ := r
    cases d <;> (first | (cases h; done) | skip)
    rename_i b
    unfold asBools at h
    cases c : asBools ds with
    | none => rw [c] at h; cases h
    | some cs =>
      rw [c] at h
      cases h
      obtain rfl := r1
      rw [asBools_rep r2 c]
      rfl
theorem asInts_rep {K : PySem.W.Frag} {α : List Addr} {F : Hp} : ∀ {ds : List D} {vs : List V} {bs : List Int}, RepL K α F ds vs → asInts ds = some bs → vs = bs.map V.int
  | [], vs, bs, r, h => by
    unfold RepL at r
    cases h
    exact r
  | d :: ds, vs, bs, r, h => by
    unfold RepL at r
    obtain ⟨v, t, rfl, r1, r2⟩ := r
    cases d <;> (first | (cases h; done) | skip)
    rename_i b
    unfold asInts at h
    cases c : asInts ds with
    | none => rw [c] at h; cases h
    | some cs =>
      rw [c] at h
      cases h
      obtain rfl := r1
      rw [asInts_rep r2 c]
      rfl
theorem asStrs_rep {K : PySem.W.Frag} {α : List Addr} {F : Hp} : ∀ {ds : List D} {vs : List V} {bs : List Str}, RepL K α F ds vs → asStrs ds = some bs → vs = bs.map V.str
  | [], vs, bs, r, h => by
    unfold RepL at r
    cases h
    exact r
  | d :: ds, vs, bs, r, h => by
    unfold RepL at r
    obtain ⟨v, t, rfl, r1, r2⟩ := r
    cases d <;> (first | (cases h; done) | skip)
    rename_i b
    unfold asStrs at h
    cases c : asStrs ds with
    | none => rw [c] at h; cases h
    | some cs =>
      rw [c] at h
      cases h
      obtain rfl := r1
      rw [asStrs_rep r2 c]
      rfl
/-- the type of what stands for a datum -/
theorem isTy_kit {t : Ty} {d : D} {κ : Store} {b : Bool} (h : isTy t d κ = some b) : ∃ n, tyName d κ = some n ∧ kitB n t.nm = some b := by
  unfold isTy at h
  unfold tyName
  cases c : cellOf κ d <;> rw [c] at h <;> (first | (cases h; done) | skip) <;> cases h <;> refine ⟨_, rfl, ?_⟩ <;> cases t <;> decide +kernel
theorem sqL_ty {K : PySem.W.Frag} {H : Hp} {a : Addr} {xs : List V} (h : SqL K H a xs) : TyX K H (.ref a) (.type "list") := by
  rcases h with (h | ⟨o, h⟩) | ⟨o, its, n, h, hc, _⟩
  · exact .base (.lst h)
  · exact .base (.frz h)
  · exact .kList h hc
theorem sqT_ty {K : PySem.W.Frag} {H : Hp} {a : Addr} {xs : List V} (h : SqT K H a xs) : TyX K H (.ref a) (.type "tuple") := by
  rcases h with (h | ⟨o, h⟩) | ⟨o, its, n, h, hc, _⟩
  · exact .base (.tup h)
  · exact .fTuple h
  · exact .kTuple h hc
theorem non_rep {K : PySem.W.Frag} {α : List Addr} {F : Hp} {κ : Store} {d : D} {x : V} (r : Rep K α F d x) (e : cellOf κ d = .non) : x = .non := by
  cases d with
  | non => exact r
  | cell i =>
    have e' : liveOr κ[i]? = .non := e
    cases q : κ[i]? with
    | none => rw [q] at e'; cases e'
    | some o => rw [q] at e'; cases o <;> cases e'
  | _ => cases e
theorem ty_rep {K : PySem.W.Frag} {B : Hp} {α : List Addr} {F H : Hp} {κ : Store} {d : D} {x : V} {n : String} (S : St K B α F κ H) (r : Rep K α F d x) (h : tyName d κ = some n) : TyX K H x (.type n) := by
  obtain ⟨h1, h2, h3, h4, h5⟩ := seq_rep S r
  unfold tyName at h
  cases c : cellOf κ d with
  | non => rw [c] at h; cases h; rw [non_rep r c]; exact .base .non
  | bl b => rw [c] at h; cases h; rw [h5 _ c]; exact .base (.bl _)
  | int i => rw [c] at h; cases h; rw [h4 _ c]; exact .base (.int _)
  | str i => rw [c] at h; cases h; rw [h3 _ c]; exact .base (.str _)
  | lst xs =>
    rw [c] at h; cases h
    obtain ⟨a, vs, rfl, sq, rl⟩ := h1 _ c
    exact sqL_ty sq
  | tup xs =>
    rw [c] at h; cases h
    obtain ⟨a, vs, rfl, sq, rl⟩ := h2 _ c
    exact sqT_ty sq
  | dic xs =>
    rw [c] at h; cases h
    obtain ⟨a, us, rfl, sq, rl⟩ := dic_rep S r _ c
    rcases sq with sq | ⟨o, sq⟩
    · exact .base (.dK sq)
    · exact .fDict sq
  | _ => rw [c] at h; cases h
/-- one-place built-ins -/
def F1.ok : F1 → Bool
  | .len => true
  | .any => true
  | .all => true
  | .sum => true
  | .abs => true
  | _ => false
def F1.isT : F1 → Bool
  | .int => true
  | .str => true
  | .list => true
  | .tuple => true
  | _ => false
def F1.nm : F1 → String
  | .len => "len"
  | .any => "any"
  | .all => "all"
  | .sum => "sum"
  | .abs => "abs"
  | .int => "int"
  | .str => "str"
  | .list => "list"
  | .tuple => "tuple"
  | .dict => "dict"
  | .min => "min"
  | .max => "max"
  | .sorted => "sorted"
theorem lst_len {K : PySem.W.Frag} {α : List Addr} {F : Hp} {xs : List D} {vs : List V} (r : RepL K α F xs vs) : ((xs.length : Nat) : Int) = (vs.length : Nat) := by rw [r.length]
theorem ok_f1 (hc : X.calm = true) (f : F1) (hf : f.ok = true) : CallR X (.builtin f.nm) (r1S X.K (opF1 f)) := by
  intro pins s σ H xs us Q I r h
  obtain ⟨B, α, F, κ, d, x, rfl, S, r1, q⟩ := h
  obtain ⟨h1, h2, h3, h4, h5⟩ := seq_rep S r1
  have hz : sizeLine = 16777216 := sizeLine_eq
  cases f <;> (first | (cases hf; done) | skip) <;> clear hf
  · -- len
    unfold opF1 at q
    dsimp only at q
    refine call_len pins s σ H _ us Q I r ?_
    cases c : cellOf κ d with
    | lst xs =>
      rw [c] at q
      obtain ⟨a, vs, rfl, sq, rl⟩ := h1 _ c
      exact ⟨_, vs.length, rfl, .inl ⟨vs, sq, rfl⟩, by rw [← rl.length]; exact post_int S q⟩
    | tup xs =>
      rw [c] at q
      obtain ⟨a, vs, rfl, sq, rl⟩ := h2 _ c
      exact ⟨_, vs.length, rfl, .inr ⟨vs, sq, rfl⟩, by rw [← rl.length]; exact post_int S q⟩
    | str z =>
      rw [c] at q
      dsimp only at q
      obtain rfl := h3 _ c
      by_cases l : z.length ≤ 16777216
      · rw [if_pos l] at q
        exact ⟨_, z.length, rfl, ⟨by rw [hz]; exact l, rfl⟩, post_int S q⟩
      · rw [if_neg l] at q
        exact False.elim q
    | _ => rw [c] at q; exact False.elim q
  · -- abs
    unfold opF1 at q
    dsimp only at q
    cases d <;> (first | (exact False.elim q) | skip)
    obtain rfl := r1
    exact call_abs pins s σ H _ us Q I r ⟨_, rfl, post_int S q⟩
  · -- any
    unfold opF1 at q
    dsimp only at q
    cases c : cellOf κ d with
    | lst xs =>
      rw [c] at q
      dsimp only at q
      obtain ⟨a, vs, rfl, sq, rl⟩ := h1 _ c
      cases e : asBools xs with
      | none => rw [e] at q; exact False.elim q
      | some bs =>
        rw [e] at q
        have ev := asBools_rep rl e
        subst ev
        exact cr_any hc pins s σ H _ us Q I r ⟨a, bs, rfl, sq, post_bl S q⟩
    | _ => rw [c] at q; exact False.elim q
  · -- all
    unfold opF1 at q
    dsimp only at q
    cases c : cellOf κ d with
    | lst xs =>
      rw [c] at q
      dsimp only at q
      obtain ⟨a, vs, rfl, sq, rl⟩ := h1 _ c
      cases e : asBools xs with
      | none => rw [e] at q; exact False.elim q
      | some bs =>
        rw [e] at q
        have ev := asBools_rep rl e
        subst ev
        exact cr_all hc pins s σ H _ us Q I r ⟨a, bs, rfl, sq, post_bl S q⟩
    | _ => rw [c] at q; exact False.elim q
  · -- sum
    unfold opF1 at q
    dsimp only at q
    cases c : cellOf κ d with
    | lst xs =>
      rw [c] at q
      dsimp only at q
      obtain ⟨a, vs, rfl, sq, rl⟩ := h1 _ c
      cases e : asInts xs with
      | none => rw [e] at q; exact False.elim q
      | some bs =>
        rw [e] at q
        have ev := asInts_rep rl e
        subst ev
        exact cr_sum hc pins s σ H _ us Q I r ⟨a, bs, rfl, sq, post_int S q⟩
    | _ => rw [c] at q; exact False.elim q
mutual
theorem dp_rep {K : PySem.W.Frag} {B : Hp} {α : List Addr} {F H : Hp} {κ : Store} (S : St K B α F κ H) : ∀ (d : D) (x : V) (p : PyData), dpD d = some p → Rep K α F d x → Dp K H x p
  | .non, x, p, h, r => by
    cases h
    obtain rfl := r
    exact .non
  | .bl b, x, p, h, r => by
    cases h
    obtain rfl := r
    exact .bl b
  | .int b, x, p, h, r => by
    cases h
    obtain rfl := r
    exact .int b
  | .str b, x, p, h, r => by
    cases h
    obtain rfl := r
    exact .str b
  | .tup ds, x, p, h, r => by
    unfold dpD at h
    cases e : dpL ds with
    | none => rw [e] at h; cases h
    | some ps =>
      rw [e] at h
      cases h
      unfold Rep at r
      obtain ⟨a, vs, rfl, sq, rl⟩ := r
      exact .tup (S.sqT sq) (dp_reps S ds vs ps e rl)
  | .lst ds, x, p, h, r => by
    unfold dpD at h
    cases e : dpL ds with
    | none => rw [e] at h; cases h
    | some ps =>
      rw [e] at h
      cases h
      unfold Rep at r
      obtain ⟨a, vs, rfl, sq, rl⟩ := r
      exact .lst (S.sqL sq) (dp_reps S ds vs ps e rl)
  | .dic _, _, _, h, _ => by cases h
  | .ins _ _, _, _, h, _ => by cases h
  | .gl _, _, _, h, _ => by cases h
  | .cell _, _, _, h, _ => by cases h
  | .exn _ _ _ _, _, _, h, _ => by cases h
theorem dp_reps {K : PySem.W.Frag} {B : Hp} {α : List Addr} {F H : Hp} {κ : Store} (S : St K B α F κ H) : ∀ (ds : List D) (xs : List V) (ps : List PyData), dpL ds = some ps → RepL K α F ds xs → DpAll K H xs ps
  | [], xs, ps, h, r => by
    cases h
    unfold RepL at r
    subst r
    exact .nil
  | d :: ds, xs, ps, h, r => by
    unfold dpL at h
    cases e : dpD d with
    | none => rw [e] at h; cases h
    | some p =>
      rw [e, Option.bind_some] at h
      cases e2 : dpL ds with
      | none => rw [e2] at h; cases h
      | some qs =>
        rw [e2] at h
        cases h
        unfold RepL at r
        obtain ⟨v, w, rfl, r1, r2⟩ := r
        exact .cons (dp_rep S d v p e r1) (dp_reps S ds w qs e2 r2)
end
theorem dp_cell {K : PySem.W.Frag} {B : Hp} {α : List Addr} {F H : Hp} {κ : Store} {d : D} {x : V} {p : PyData} (S : St K B α F κ H) (h : dpD (cellOf κ d) = some p) (r : Rep K α F d x) : Dp K H x p := by
  obtain ⟨sl, st, ss, si, sb⟩ := seq_rep S r
  cases c : cellOf κ d with
  | lst xs =>
    rw [c] at h
    obtain ⟨a, vs, rfl, sq, rl⟩ := sl xs c
    unfold dpD at h
    cases e : dpL xs with
    | none => rw [e] at h; cases h
    | some ps =>
      rw [e] at h
      cases h
      exact .lst sq (dp_reps S xs vs ps e rl)
  | tup xs =>
    rw [c] at h
    obtain ⟨a, vs, rfl, sq, rl⟩ := st xs c
    unfold dpD at h
    cases e : dpL xs with
    | none => rw [e] at h; cases h
    | some ps =>
      rw [e] at h
      cases h
      exact .tup sq (dp_reps S xs vs ps e rl)
  | str z =>
    rw [c] at h
    cases h
    rw [ss z c]
    exact .str z
  | int z =>
    rw [c] at h
    cases h
    rw [si z c]
    exact .int z
  | bl z =>
    rw [c] at h
    cases h
    rw [sb z c]
    exact .bl z
  | non =>
    rw [c] at h
    cases h
    rw [non_rep r c]
    exact .non
  | dic _ => rw [c] at h; cases h
  | ins _ _ => rw [c] at h; cases h
  | gl _ => rw [c] at h; cases h
  | cell _ => rw [c] at h; cases h
  | exn _ _ _ _ => rw [c] at h; cases h
theorem eqO_run {K : PySem.W.Frag} {B : Hp} {α : List Addr} {F H : Hp} {κ : Store} {d e : D} {x y : V} {b : Bool} (S : St K B α F κ H) (r1 : Rep K α F d x) (r2 : Rep K α F e y) (h : eqO d e κ = some b) :
    ∃ p q, Dp K H x p ∧ Dp K H y q ∧ SeqAt.shaped p = true ∧ SeqAt.shaped q = true ∧ PyData.eqv p q = b := by
  unfold eqO at h
  split at h
  · rename_i p q h1 h2
    split at h
    · rename_i hs
      cases h
      rw [Bool.and_eq_true] at hs
      exact ⟨p, q, dp_cell S h1 r1, dp_cell S h2 r2, hs.1, hs.2, rfl⟩
    · cases h
  · cases h
theorem ok_cmp0 (hu : X.A.units + 64 < cLine) (o : Cop) (ho : o ≠ .inn ∧ o ≠ .ntn) : OpR X (compareOp o.op) (r2S X.K (opCmp o)) := by
  intro pins s σ H x y v u Q I rx ry h
  obtain ⟨B, α, F, κ, d, e, S, r1, r2, q⟩ := h
  cases o
  · unfold opCmp at q
    dsimp only at q
    cases c : eqS d e with
    | none =>
      rw [c] at q
      dsimp only at q
      cases c2 : eqO d e κ with
      | none => rw [c2] at q; exact False.elim q
      | some b =>
        rw [c2] at q
        obtain ⟨p, p', h1, h2, h3, h4, h5⟩ := eqO_run S r1 r2 c2
        exact op_eqD hu pins s σ H _ _ v u Q I rx ry ⟨p, p', h1, h2, h3, h4, by rw [h5]; exact post_bl S q⟩
    | some b =>
      rw [c] at q
      obtain ⟨h1, h2⟩ := scal_eq r1 r2 c
      exact op_eq pins s σ H _ _ v u Q I rx ry ⟨h1, by rw [h2]; exact post_bl S q⟩
  · unfold opCmp at q
    dsimp only at q
    cases c : eqS d e with
    | none =>
      rw [c] at q
      dsimp only at q
      cases c2 : eqO d e κ with
      | none => rw [c2] at q; exact False.elim q
      | some b =>
        rw [c2] at q
        obtain ⟨p, p', h1, h2, h3, h4, h5⟩ := eqO_run S r1 r2 c2
        exact op_neD hu pins s σ H _ _ v u Q I rx ry ⟨p, p', h1, h2, h3, h4, by rw [h5]; exact post_bl S q⟩
    | some b =>
      rw [c] at q
      obtain ⟨h1, h2⟩ := scal_eq r1 r2 c
      exact op_ne pins s σ H _ _ v u Q I rx ry ⟨h1, by rw [h2]; exact post_bl S q⟩
  · cases d <;> cases e <;> (first | (exact False.elim q) | skip)
    obtain rfl := r1; obtain rfl := r2
    exact op_lt pins s σ H _ _ v u Q I rx ry ⟨_, _, rfl, rfl, post_bl S q⟩
  · cases d <;> cases e <;> (first | (exact False.elim q) | skip)
    obtain rfl := r1; obtain rfl := r2
    exact op_le pins s σ H _ _ v u Q I rx ry ⟨_, _, rfl, rfl, post_bl S q⟩
  · cases d <;> cases e <;> (first | (exact False.elim q) | skip)
    obtain rfl := r1; obtain rfl := r2
    exact op_gt pins s σ H _ _ v u Q I rx ry ⟨_, _, rfl, rfl, post_bl S q⟩
  · cases d <;> cases e <;> (first | (exact False.elim q) | skip)
    obtain rfl := r1; obtain rfl := r2
    exact op_ge pins s σ H _ _ v u Q I rx ry ⟨_, _, rfl, rfl, post_bl S q⟩
  · cases e <;> (first | (exact False.elim q) | skip)
    obtain rfl := r2
    have z : decide (x = .non) = isNonD d := by
      cases d <;> (first | (obtain rfl := r1; rfl) | skip)
      all_goals (unfold Rep at r1; obtain ⟨a, h⟩ := r1)
      all_goals (first | (obtain ⟨_, rfl, _⟩ := h; rfl) | (obtain ⟨_, _, rfl, _⟩ := h; rfl) | (obtain ⟨_, rfl⟩ := h; rfl) | (obtain ⟨rfl, _⟩ := h; rfl))
    exact op_isN pins s σ H _ _ v u Q I rx ry ⟨rfl, by rw [z]; exact post_bl S q⟩
  · cases e <;> (first | (exact False.elim q) | skip)
    obtain rfl := r2
    have z : decide (x = .non) = isNonD d := by
      cases d <;> (first | (obtain rfl := r1; rfl) | skip)
      all_goals (unfold Rep at r1; obtain ⟨a, h⟩ := r1)
      all_goals (first | (obtain ⟨_, rfl, _⟩ := h; rfl) | (obtain ⟨_, _, rfl, _⟩ := h; rfl) | (obtain ⟨_, rfl⟩ := h; rfl) | (obtain ⟨rfl, _⟩ := h; rfl))
    exact op_notN pins s σ H _ _ v u Q I rx ry ⟨rfl, by rw [z]; exact post_bl S q⟩
  · exact absurd rfl ho.1
  · exact absurd rfl ho.2
/-- what stands for a flat datum -/
def vOf : D → V
  | .bl b => .bl b
  | .int i => .int i
  | .str x => .str x
  | _ => .non
theorem flat_rep {K : PySem.W.Frag} {α : List Addr} {F : Hp} {d : D} {x : V} (h : flatD d = true) (r : Rep K α F d x) : x = vOf d ∧ flatV (vOf d) = true := by
  cases d <;> (first | (cases h; done) | skip) <;> exact ⟨r, rfl⟩
theorem flat_reps {K : PySem.W.Frag} {α : List Addr} {F : Hp} : ∀ {xs : List D} {vs : List V}, xs.all flatD = true → RepL K α F xs vs → vs = xs.map vOf ∧ (xs.map vOf).all flatV = true
  | [], vs, _, r => by
    unfold RepL at r
    exact ⟨r, rfl⟩
  | x :: xs, vs, h, r => by
    rw [List.all_cons, Bool.and_eq_true] at h
    unfold RepL at r
    obtain ⟨v, w, rfl, r1, r2⟩ := r
    obtain ⟨e1, e2⟩ := flat_rep h.1 r1
    obtain ⟨e3, e4⟩ := flat_reps h.2 r2
    exact ⟨by rw [e1, e3]; rfl, by rw [List.map_cons, List.all_cons, e2, e4]; rfl⟩
theorem eqV_of {y d : D} (h : flatD y = true) (h2 : flatD d = true) : eqV (vOf y) (vOf d) = eqFl y d := by
  cases y <;> (first | (cases h; done) | skip) <;> cases d <;> (first | (cases h2; done) | rfl)
theorem inV_of {d : D} (h2 : flatD d = true) : ∀ {xs : List D}, xs.all flatD = true → inV (vOf d) (xs.map vOf) = xs.any fun y => eqFl y d
  | [], _ => rfl
  | x :: xs, h => by
    rw [List.all_cons, Bool.and_eq_true] at h
    show (eqV (vOf x) (vOf d) || inV (vOf d) (xs.map vOf)) = _
    rw [eqV_of h.1 h2, inV_of h2 h.2]
    rfl
theorem ok_in (hu : X.A.units + 1 < cLine) (neg : Bool) : OpR X (compareOp (if neg then .NotIn else .In)) (r2S X.K fun d e κ => match inD d e κ with | some b => .ok (.bl (if neg then !b else b)) κ | none => .bad) := by
  intro pins s σ H x y v u Q I rx ry h
  obtain ⟨B, α, F, κ, d, e, S, r1, r2, q⟩ := h
  dsimp only at q
  cases hi : inD d e κ with
  | none => rw [hi] at q; exact False.elim q
  | some b =>
    rw [hi] at q
    dsimp only at q
    obtain ⟨sl, st, ss, _, _⟩ := seq_rep S r2
    unfold inD at hi
    have seq : ∀ {p : Addr} {vs : List V} {xs : List D}, y = .ref p → (SqL X.K H p vs ∨ SqT X.K H p vs) → RepL X.K α F xs vs → inList d xs = some b → wpAny (model X.prog X.w) X.A (compareOp (if neg then .NotIn else .In) v u) (EP X pins σ Q) X.xe s := by
      intro p vs xs ey hs rl hb
      unfold inList at hb
      split at hb
      · rename_i hf
        cases hb
        rw [Bool.and_eq_true] at hf
        obtain ⟨e1, e2⟩ := flat_rep hf.1 r1
        obtain ⟨e3, e4⟩ := flat_reps hf.2 rl
        subst e1 e3
        cases neg with
        | true => exact op_notIn_seq pins s σ H _ _ v u Q I rx ry ⟨p, _, ey, hs, e2, e4, by rw [inV_of hf.1 hf.2]; exact post_bl S q⟩
        | false => exact op_in_seq pins s σ H _ _ v u Q I rx ry ⟨p, _, ey, hs, e2, e4, by rw [inV_of hf.1 hf.2]; exact post_bl S q⟩
      · cases hb
    split at hi
    · rename_i xs c
      obtain ⟨a, vs, ey, sq, rl⟩ := sl xs c
      exact seq ey (.inl sq) rl hi
    · rename_i xs c
      obtain ⟨a, vs, ey, sq, rl⟩ := st xs c
      exact seq ey (.inr sq) rl hi
    · rename_i kvs c
      obtain ⟨a, us, rfl, rd, rk⟩ := dic_rep S r2 kvs c
      cases hk : keyD d with
      | none => rw [hk] at hi; cases hi
      | some k =>
        rw [hk] at hi
        cases hi
        obtain rfl : u = Value.ref a := ry
        have g : DGet H a x (valV us k) := .inl ⟨us, k, rd, keyD_kV hk r1, rfl⟩
        have hv : (valV us k).isSome = (valD kvs k).isSome := by
          cases e : valD kvs k with
          | some z =>
            obtain ⟨w, e1, _⟩ := rk.val e
            rw [e1]
            rfl
          | none =>
            rw [rk.valN e]
            rfl
        cases neg with
        | true => exact d_notIn hu I g rx fun s' I' => ⟨.bl _, H, I', rfl, by rw [hv]; exact post_bl S q⟩
        | false => exact d_in hu I g rx fun s' I' => ⟨.bl _, H, I', rfl, by rw [hv]; exact post_bl S q⟩
    · rename_i z c
      have ey := ss z c
      split at hi
      · rename_i cc
        split at hi
        · rename_i un hc
          cases hi
          obtain rfl := r1
          have ec : cc = ⟨#[un]⟩ := by
            obtain ⟨arr⟩ := cc
            have : arr.toList = [un] := hc
            congr 1
            rw [← Array.toArray_toList (xs := arr), this]
          subst ec
          cases neg with
          | true => exact op_notIn_sign pins s σ H _ _ v u Q I rx ry ⟨un, z, rfl, ey, post_bl S q⟩
          | false => exact op_in_sign pins s σ H _ _ v u Q I rx ry ⟨un, z, rfl, ey, post_bl S q⟩
        · cases hi
      · cases hi
    · cases hi
theorem ok_cmp (hu : X.A.units + 64 < cLine) (o : Cop) : OpR X (compareOp o.op) (r2S X.K (opCmp o)) := by
  by_cases h1 : o = .inn
  · subst h1
    exact ok_in (by omega) false
  · by_cases h2 : o = .ntn
    · subst h2
      exact ok_in (by omega) true
    · exact ok_cmp0 hu o ⟨h1, h2⟩
end
end I3

set_option Elab.async false
set_option linter.all false
set_option autoImplicit false
set_option maxRecDepth 100000
set_option maxHeartbeats 1000000
/-! I3e: what is walked; the context of a body. -/
namespace I3
open PySem PySem.Spec PyProof.Rows L2

/-! ### what is walked -/
structure ItOk (K : PySem.W.Frag) (α : List Addr) (F : Hp) (J : Itm) (T : It) : Prop where
  go : ∀ (B : Hp) (α' : List Addr) (F' : Hp) (κ : Store) (H : Hp) (i : Nat) (d : D), AExt α α' → FExt F F' → St K B α' F' κ H → i < J.len → J.get i κ = some d →
    T.go i H ∧ ∀ x H', T.yld i H x H' → ∃ F'', FExt F' F'' ∧ St K B α' F'' κ H' ∧ Rep K α' F'' d x
  stop : ∀ (B : Hp) (α' : List Addr) (F' : Hp) (κ : Store) (H : Hp), AExt α α' → FExt F F' → St K B α' F' κ H → J.fin κ = true → T.stop J.len H
def PostI (K : PySem.W.Frag) (B : Hp) (W : WX) (σ : L2.St) (α : List Addr) (F : Hp) (R : It → Hp → Prop) : Res Itm → Prop
  | .ok J κ => ∀ T H' α' F', AExt α α' → FExt F F' → St K B α' F' κ H' → ItOk K α' F' J T → R T H'
  | .exc c fs κ => PostX K B W σ α F c fs κ
  | .bad => False
def iS (K : PySem.W.Frag) (W : WX) (m : Env' → Store → Res Itm) : TI := fun σ H R => ∃ B α F κ ρ, St K B α F κ H ∧ RepE K α F ρ σ ∧ PostI K B W σ α F R (m ρ κ)
theorem pi_imp {X : Cx} {tg it : Expr} {t t' : TI} (h : PI X tg it t) (i : ∀ σ H Q, t' σ H Q → t σ H Q) : PI X tg it t' := ⟨fun pins s σ H R I q => h.run pins s σ H R I (i σ H R q)⟩
/-- a list or a tuple -/
def iSeq (K : PySem.W.Frag) (tl : TE) : TI := fun σ H R => tl σ H fun x H1 => (∃ z, x = .str z ∧ R (Its z) H1) ∨ ∃ a, x = .ref a ∧ (((∃ xs, SqL K H1 a xs) ∧ R (Itl K a) H1) ∨ ((∃ xs, SqT K H1 a xs) ∧ R (Itt K a) H1))
theorem pi_seq {X : Cx} {tg l : Expr} {tl : TE} (hl : PE X l tl) : PI X tg l (iSeq X.K tl) := by
  refine ⟨fun pins s σ H R I h => ?_⟩
  refine thn (hl.run pins s σ H _ I h) fun v s1 ⟨x, H1, I1, r1, q1⟩ => ?_
  rcases q1 with ⟨z, e, q⟩ | ⟨a, e, q⟩
  · subst e
    obtain ⟨t, rfl⟩ := r1
    cases ha : z.cps.all (· < 128)
    · exact wpAny_pyIter_wide ha (pi_one (tk := s1.toks) I1 _ (turn_str _ z t "str_iterator" (.inr rfl)) ⟨_, Heap.get?_push_size _ rfl, rfl, rfl⟩ q)
    · exact wpAny_pyIter_ascii ha (pi_one (tk := s1.toks) I1 _ (turn_str _ z t "str_ascii_iterator" (.inl rfl)) ⟨_, Heap.get?_push_size _ rfl, rfl, rfl⟩ q)
  subst e
  cases r1
  rcases q with ⟨⟨xs, hq⟩, q⟩ | ⟨⟨xs, hq⟩, q⟩
  · obtain ⟨its, rv, p, hz⟩ := I1.list hq
    refine wpAny_pyIter_list p.isList ?_
    refine ⟨s1.heap.objs.size, [s1.heap.objs.size], _, _, H1, rfl, I1.kept (t' := s1.toks) fun b o e => Heap.get?_push_of_some _ e, turn_list a _, ⟨_, Heap.get?_push_size _ rfl, rfl, rfl⟩, fun b hb => ?_, q⟩
    have e : b = s1.heap.objs.size := by simpa using hb
    subst e
    exact I1.fpOk (Nat.le_refl _) (I1.hok.fresh (Nat.le_refl _))
  · obtain ⟨its, rv, p, hz⟩ := I1.tuple hq
    refine wpAny_pyIter_tuple (show s1.heap.IsTuple a its.toArray from p) ?_
    refine ⟨s1.heap.objs.size, [s1.heap.objs.size], _, _, H1, rfl, I1.kept (t' := s1.toks) fun b o e => Heap.get?_push_of_some _ e, turn_tuple a _, ⟨_, Heap.get?_push_size _ rfl, rfl, rfl⟩, fun b hb => ?_, q⟩
    have e : b = s1.heap.objs.size := by simpa using hb
    subst e
    exact I1.fpOk (Nat.le_refl _) (I1.hok.fresh (Nat.le_refl _))
section
variable {K : PySem.W.Frag} {B : Hp} {α : List Addr} {F : Hp}
theorem itOk_list {a : Addr} {vs : List V} {xs : List D} (h : SqL K F a vs) (r : RepL K α F xs vs) : ItOk K α F (.fix xs) (Itl K a) where
  go := fun B α' F' κ H i d ha hf S hi e => by
    obtain ⟨v, e1, r1⟩ := r.get e
    have sq := S.sqL (rd_sqL hf h)
    refine ⟨⟨vs, v, sq, e1⟩, fun x H' y => ?_⟩
    obtain ⟨rfl, y⟩ := y
    have := y vs sq
    rw [e1] at this
    cases this
    exact ⟨F', FExt.refl _, S, r1.mono ha hf⟩
  stop := fun B α' F' κ H ha hf S _ => ⟨vs, S.sqL (rd_sqL hf h), Nat.le_of_eq r.length.symm⟩
theorem itOk_tup {a : Addr} {vs : List V} {xs : List D} (h : SqT K F a vs) (r : RepL K α F xs vs) : ItOk K α F (.fix xs) (Itt K a) where
  go := fun B α' F' κ H i d ha hf S hi e => by
    obtain ⟨v, e1, r1⟩ := r.get e
    have sq := S.sqT (rd_sqT hf h)
    refine ⟨⟨vs, v, sq, e1⟩, fun x H' y => ?_⟩
    obtain ⟨rfl, y⟩ := y
    have := y vs sq
    rw [e1] at this
    cases this
    exact ⟨F', FExt.refl _, S, r1.mono ha hf⟩
  stop := fun B α' F' κ H ha hf S _ => ⟨vs, S.sqT (rd_sqT hf h), Nat.le_of_eq r.length.symm⟩
theorem itOk_str {z : Str} : ItOk K α F (.fix (signsD z)) (Its z) where
  go := fun B α' F' κ H i d ha hf S hi e => by
    have hl : (signsD z).length = z.cps.size := by unfold signsD; rw [List.length_map]; exact Array.length_toList
    have hi' : i < z.cps.size := hl ▸ hi
    have e' : (signsD z)[i]? = some (.str ⟨#[z.cps[i]]⟩) := by
      unfold signsD
      rw [List.getElem?_map, Array.getElem?_toList, Array.getElem?_eq_getElem hi']
      rfl
    have e2 : (signsD z)[i]? = some d := e
    rw [e'] at e2
    cases e2
    refine ⟨hi', fun x H' y => ?_⟩
    obtain ⟨rfl, c, hc, rfl⟩ := y
    rw [Array.getElem?_eq_getElem hi'] at hc
    cases hc
    exact ⟨F', FExt.refl _, S, rfl⟩
  stop := fun B α' F' κ H ha hf S _ => by
    show z.cps.size ≤ (signsD z).length
    unfold signsD
    rw [List.length_map]
    exact Nat.le_of_eq Array.length_toList.symm
theorem itOk_cell {a : Addr} {i n : Nat} (h : α[i]? = some a) : ItOk K α F (.cel i n) (Itl K a) where
  go := fun B α' F' κ H j d ha hf S hj e => by
    unfold Itm.get at e
    dsimp only at e
    cases q : κ[i]? with
    | none => rw [q] at e; cases e
    | some o =>
      rw [q] at e
      cases o <;> (first | (cases e; done) | skip)
      rename_i ys
      obtain ⟨us, e1, r1⟩ := S.cel i a _ (ha _ _ h) q
      dsimp only at e
      by_cases z : ys.length = n
      · rw [if_pos z] at e
        obtain ⟨v, e2, r2⟩ := r1.get e
        have sq : SqL K H a us := SqL.of e1
        refine ⟨⟨us, v, sq, e2⟩, fun x H' y => ?_⟩
        obtain ⟨rfl, y⟩ := y
        have := y us sq
        rw [e2] at this
        cases this
        exact ⟨F', FExt.refl _, S, r2⟩
      · rw [if_neg z] at e
        cases e
  stop := fun B α' F' κ H ha hf S e => by
    unfold Itm.fin at e
    dsimp only at e
    cases q : κ[i]? with
    | none => rw [q] at e; cases e
    | some o =>
      rw [q] at e
      cases o <;> (first | (cases e; done) | skip)
      rename_i ys
      obtain ⟨us, e1, r1⟩ := S.cel i a _ (ha _ _ h) q
      have z : ys.length = n := of_decide_eq_true e
      refine ⟨us, SqL.of e1, ?_⟩
      show us.length ≤ n
      rw [← r1.length, z]
      exact Nat.le_refl _
theorem itOk_range {lo : Int} {n : Nat} : ItOk K α F (.fix (rangeD lo n)) (Itr lo n) where
  go := fun B α' F' κ H i d ha hf S hi e => by
    have hl : (rangeD lo n).length = n := by unfold rangeD; rw [List.length_map, List.length_range]
    have hi' : i < n := hl ▸ hi
    have e' : (rangeD lo n)[i]? = some (.int (lo + (i : Int))) := by
      unfold rangeD
      rw [List.getElem?_map, List.getElem?_range hi']
      rfl
    have e2 : (rangeD lo n)[i]? = some d := e
    rw [e'] at e2
    cases e2
    refine ⟨hi', fun x H' y => ?_⟩
    obtain ⟨rfl, rfl⟩ := y
    exact ⟨F', FExt.refl _, S, rfl⟩
  stop := fun B α' F' κ H ha hf S _ => by
    show n ≤ (rangeD lo n).length
    unfold rangeD
    rw [List.length_map, List.length_range]
    exact Nat.le_refl _
end

/-! ### the context of a body -/
/-- what a call of f promises: the semantic function's outcome -/
def spC (K : PySem.W.Frag) (np : Nat) (m : List D → Store → Res D) : Sp := fun vs H Q E => vs.length = np ∧ ∃ B α F κ ds, St K B α F κ H ∧ RepL K α F ds vs ∧ Post K B (fun c d _ H' => E c d H') [] α F Q (m ds κ)
/-- how many arguments may be written: none is taken, or defaults fill up -/
def ArgsOk (K : PySem.W.Frag) (fd : FuncData) (ps : List Str) (m : List D → Store → Res D) : Prop :=
  ∀ n : Nat, (∀ ds κ, ds.length = n → m ds κ = .bad) ∨ ∃ (dd : List D) (dvs : List V) (us : List Value), n + dd.length = ps.length ∧ (∀ α F, RepL K α F dd dvs) ∧ Vals dvs us ∧ Binds K fd ps us ∧ ∀ ds κ, ds.length = n → m ds κ = m (ds ++ dd) κ
structure FnAt (X : Cx) (k : Nat) (f : Addr) (m : List D → Store → Res D) : Prop where
  ex : ∃ (fd : FuncData) (ps : List Str), PySem.W.keepIn X.K (.ref f) = true ∧ FnOk X.prog X.w X.K X.mg X.base (L2.CX X.prog X.w) k f fd ps (spC X.K ps.length m) ∧ ArgsOk X.K fd ps m
/-- built-in names that the module leaves alone -/
def bltNames : List Str := ["len", "any", "all", "sum", "abs", "int", "str", "list", "tuple", "dict", "min", "max", "sorted", "range", "isinstance", "bool", "enumerate", "zip", "reversed"]
/-- what is known of a body ahead: which names have cells of their own, the slots, the scope, the defs that may be called -/
structure Sta where
  fnB : Str → Bool
  N : List Str
  sc : Scope
  fs : List Str
  /-- static methods that may be called -/
  ss : List (Str × Str) := []
  /-- within a clause's suite -/
  hot : Bool := false
  /-- not within a block of its own -/
  top : Bool := true
def Sta.heat (Z : Sta) : Sta := { Z with hot := true }
theorem cold {b : Bool} (h : (!b) = true) : b = false := by cases b <;> first | rfl | cases h
def Sta.blk (Z : Sta) (scope : Scope) : Sta := { Z with top := false, fnB := fun x => scope.names.lookup x == some .cell, sc := relS scope Z.sc }
/-- C.m is a staticmethod: its record at p, its def at g -/
structure CSta (K : PySem.W.Frag) (C : Addr) (m : Str) (p g : Addr) : Prop where
  at_ : PySem.W.findCls K (.ref C) (.type "type") m = some (.get (.builtin "staticmethod.__get__") (.ref p) .none (.ref C))
  rc : ∃ rest, PySem.W.recIn K p "staticmethod" = some (.ref g :: rest)
/-- what isinstance looks up of an instance's class -/
structure InsC (K : PySem.W.Frag) (C : Addr) : Prop where
  cl : Cls K C
  at_ : PySem.W.findIn K (.ref C) "__class__" = some (some (.builtin "object.__class__"))
  get : PySem.W.specialIn K (.builtin "object.__class__") "__get__" = some (some (.builtin "getset_descriptor.__get__"))
  tk : PySem.W.takesIn K (.builtin "object.__class__") = some true
  mro : PySem.W.mroIn K C (.type "object") = some true
/-- the text of an own exception, of its parameters' values -/
def ptV (ws : List V) : List Pt → Str → Prop
  | [], _ => True
  | .s x :: ps, acc => (acc ++ x).length ≤ sizeLine ∧ ptV ws ps (acc ++ x)
  | .v i :: ps, acc => ∃ y : Str, ((ws[i]? = some (.str y) ∧ y.length ≤ sizeLine) ∨ ∃ j : Int, ws[i]? = some (.int j) ∧ j.natAbs.log2 < 1920 ∧ y = Str.ofString (toString j)) ∧ (acc ++ y).length ≤ sizeLine ∧ ptV ws ps (acc ++ y)
/-- what an own exception's __init__ does -/
def spI (K : PySem.W.Frag) (C : Addr) (xi : XI) : Sp := fun vs H Q _ => vs.length = xi.fs.length + 1 ∧ ∃ (a : Addr) (ws : List V), vs = .ref a :: ws ∧ ws.length = xi.fs.length ∧ ws.length ≤ 100 ∧ H a = some (exo a C none) ∧ ptV ws xi.pt Str.empty ∧
  ∀ (dx : Addr) (H' : Hp), H dx = none → dx ≠ a → (∀ b, b ≠ a → b ≠ dx → H' b = H b) → H' a = some (exo a C (some dx)) → H' dx = some (exd dx (xi.fs.zip ws).reverse) → Q .non H'
/-- a class by its name: the module's, or a built-in one -/
def NameV (X : Cx) (y : Str) (cv : Value) : Prop := (X.mg y = some cv ∧ cv = .ref (He.ga X.K y)) ∨ (X.mg y = none ∧ y = ("ValueError" : Str) ∧ cv = .type "ValueError")
def clsV (K : PySem.W.Frag) (y : Str) : Value := if y = ("ValueError" : Str) then .type "ValueError" else .ref (He.ga K y)
/-- what isinstance looks up of an own exception's class -/
structure ExcK (K : PySem.W.Frag) (C : Addr) : Prop where
  cl : (PySem.W.clsIn K C).isSome = true
  ga : PySem.W.findIn K (.ref C) "__getattribute__" = some (some (.builtin "BaseException.__getattribute__"))
  gt : PySem.W.findIn K (.ref C) "__getattr__" = some none
  sub : PySem.W.subIn K (.ref C) (.type "BaseException") = some true
  at_ : PySem.W.findIn K (.ref C) "__class__" = some (some (.builtin "object.__class__"))
  get : PySem.W.specialIn K (.builtin "object.__class__") "__get__" = some (some (.builtin "getset_descriptor.__get__"))
  tk : PySem.W.takesIn K (.builtin "object.__class__") = some true
  mro : PySem.W.mroIn K C (.type "object") = some true
/-- what == asks of an instance's class -/
structure EqC (K : PySem.W.Frag) (C : Addr) : Prop where
  ne : PySem.W.findIn K (.ref C) "__ne__" = some (some (.builtin "object.__ne__"))
  mro : PySem.W.mroIn K C (.type "object") = some true
  nf : ∀ n ∈ (["NoneType", "bool", "int", "str", "list", "tuple", "dict"] : List String), PySem.W.notFirst K C (.type n) = true
structure Ctx (X : Cx) (Z : Sta) (k : Nat) (W : WX) (G : Gam) : Prop where
  hN : X.N = Z.N
  hsc : X.env.scope = Z.sc
  nd : Z.N.Nodup
  calm : Z.hot = false → X.calm = true
  room : Z.hot = false → Room k X.A
  un : X.A.units + 64 < cLine
  tk : Takes X W
  pass : Z.hot = false → PassesOwn (model X.prog X.w) X.A X.env X.xe
  fn : X.fn = Z.fnB
  glob : ∀ x d, G.glob x = some d → ∃ u v, X.mg x = some u ∧ RelV v u ∧ ∀ α F, Rep X.K α F d v
  cat : ∀ x a d, G.cat x a = some d → ∃ C u v, X.mg x = some (.ref C) ∧ ClX.CRead X.K C (.type "type") ∧ ClX.CVal X.K C (.type "type") a v u ∧ ∀ α F, Rep X.K α F d v
  blt : ∀ x ∈ bltNames, X.mg x = none
  call : ∀ f ∈ Z.fs, ∃ a, X.mg f = some (.ref a) ∧ FnAt X k a (G.call f)
  low : ∀ c f, G.att c f = .prop → Cls X.K (He.ga X.K c) ∧ ∃ p g, PropOf X.K (He.ga X.K c) f p g ∧ (k = 0 ∨ ∃ j, k = j + 1 ∧ FnAt X j g (G.low (c ++ "." ++ f)))
  fld : ∀ c f, G.att c f = .fld → Cls X.K (He.ga X.K c) ∧ NoAttr X.K (He.ga X.K c) f
  con : ∀ c f d, G.att c f = .con d → Cls X.K (He.ga X.K c) ∧ ∃ u v, Con X.K (He.ga X.K c) f v u ∧ ∀ α F, Rep X.K α F d v
  meth : ∀ c m, G.isM c m = true → Cls X.K (He.ga X.K c) ∧ ∃ g, Meth X.K (He.ga X.K c) m g ∧ FnAt X k g (G.call (c ++ "." ++ m)) ∧ (k = 0 ∨ ∃ j, k = j + 1 ∧ FnAt X j g (G.low (c ++ "." ++ m))) ∧ (k ≤ 1 ∨ ∃ j, k = j + 2 ∧ FnAt X j g (G.lo2 (c ++ "." ++ m)))
  make : ∀ c, G.isC c = true → X.mg c = some (.ref (He.ga X.K c)) ∧ ∃ g, Mk X.K (He.ga X.K c) g ∧ (k = 0 ∨ ∃ j, k = j + 1 ∧ FnAt X j g (G.low (c ++ ".__init__")))
  kC : ∀ c, G.kC c = true → X.mg c = some (.ref (He.ga X.K c))
  kI : ∀ c t b, G.kI c t = some b → PySem.W.kitOne X.K (.ref (He.ga X.K c)) (.type t.nm) = some b ∧ InsC X.K (He.ga X.K c)
  kB : ∀ n c b, G.kB n c = some b → PySem.W.kitOne X.K (.type n) (.ref (He.ga X.K c)) = some b
  kO : ∀ a c b, G.kO a c = some b → PySem.W.kitOne X.K (.ref (He.ga X.K a)) (.ref (He.ga X.K c)) = some b ∧ InsC X.K (He.ga X.K a)
  xc : ∀ c xi, G.xc c = some xi → 2 ≤ k ∧ X.mg c = some (.ref (He.ga X.K c)) ∧ OexC X.K (He.ga X.K c) ∧ ∃ g fd ps, PySem.W.findIn X.K (.ref (He.ga X.K c)) "__init__" = some (some (.ref g)) ∧ PySem.W.typeIn X.K (.ref g) = some (.type "function") ∧
    Binds X.K fd ps [] ∧ FnOk X.prog X.w X.K X.mg X.base (L2.CX X.prog X.w) 1 g fd ps (spI X.K (He.ga X.K c) xi)
  kX : ∀ c y b, G.kX c y = some b → PySem.W.exmOne X.K (.ref (He.ga X.K c)) (clsV X.K y) = some b
  kN : ∀ y, G.kN y = true → NameV X y (clsV X.K y)
  stk : Z.top = true → X.stack = X.env :: X.outer ∧ X.env.frame = some X.env.locals
  kY : ∀ c y b, G.kY c y = some b → ∃ cv, NameV X y cv ∧ PySem.W.kitOne X.K (.ref (He.ga X.K c)) cv = some b ∧ ExcK X.K (He.ga X.K c)
  xa : ∀ c f, G.xa c f = true → XfC X.K (He.ga X.K c) ∧ PySem.W.findIn X.K (.ref (He.ga X.K c)) f = some none
  exn : ∀ a dx c, G.exn = some (a, dx, c) → Z.hot = true ∧ ∃ (X0 : Cx) (oe : Obj) (pn : List (Addr × Obj)), X = X0.suite a ((a, oe) :: pn) ∧ Zc (.ref (He.ga X.K c)) (some dx) oe ∧ ∃ vs, oe.data = .fields vs
  low0 : k = 0 → ∀ f ds κ, G.low f ds κ = .bad
  lo20 : k ≤ 1 → ∀ f ds κ, G.lo2 f ds κ = .bad
  kE : ∀ c, G.kE c = true → EqC X.K (He.ga X.K c)
  scall : ∀ q ∈ Z.ss, ∃ C p g, X.mg q.1 = some (.ref C) ∧ ClX.CRead X.K C (.type "type") ∧ CSta X.K C q.2 p g ∧ FnAt X k g (G.call (q.1 ++ "." ++ q.2))
end I3

set_option Elab.async false
set_option linter.all false
set_option autoImplicit false
set_option maxRecDepth 100000
set_option maxHeartbeats 2000000
/-! I3f: the checker: a text against the language without places. -/
namespace I3
open PySem PySem.Spec PyProof.Rows L2

def nameOk (x : Str) : Bool := !(x == ("__debug__" : Str)) && !(x == ("__classdict__" : Str))
def visB (sc : Scope) (x : Str) : Bool := match sc.names.lookup x with
  | some .local => true
  | some .cell => true
  | some .free => true
  | _ => false
def glB (sc : Scope) (x : Str) : Bool := match sc.names.lookup x with
  | some .globalImplicit => true
  | _ => false
def locB (fnB : Str → Bool) (sc : Scope) (x : Str) : Bool := match sc.names.lookup x with
  | some .local => true
  | some .cell => fnB x
  | _ => false
/-- a part of a call that is no star -/
def noStar : Expr → Bool
  | .Starred _ _ => false
  | _ => true
/-- an index that is taken as it is -/
def plainIx : Expr → Bool
  | .Slice _ _ _ _ => false
  | _ => true
/-- no super() -/
def plainBase : Expr → Bool
  | .Call _ _ _ _ => false
  | _ => true
/-- a test that is its value's truth -/
def plainT : Expr → Bool
  | .UnaryOp .Not _ _ => false
  | .BoolOp _ _ _ => false
  | .IfExp _ _ _ _ => false
  | .Compare _ _ _ _ => false
  | _ => true
def notSet : Expr → Bool
  | .Set _ _ _ => false
  | _ => true
def notComp : Expr → Bool
  | .ListComp _ _ _ _ => false
  | .SetComp _ _ _ _ => false
  | .DictComp _ _ _ _ _ => false
  | _ => true
def notCall : Expr → Bool
  | .Call _ _ _ _ => false
  | _ => true
def relSc (scope sc : Scope) : Scope := relS scope sc
def slotName (N : List Str) (i : Nat) : Str := (N[i]?).getD default
mutual
def ckTg (Z : Sta) : Tg → Expr → Bool
  | .nm i, .Name x _ => decide (Z.N[i]? = some x) && locB Z.fnB Z.sc x
  | .tp ts, .Tuple es _ _ => !Z.hot && decide (es.length = ts.length) && ckTgs Z ts es
  | _, _ => false
def ckTgs (Z : Sta) : List Tg → List Expr → Bool
  | [], [] => true
  | t :: ts, e :: es => ckTg Z t e && ckTgs Z ts es
  | _, _ => false
end
def eqOp (n : Bool) : CmpOp := match n with
  | true => .NotEq
  | false => .Eq
/-- a built-in method's name, how many arguments -/
def BM.nm : BM → Str
  | .starts => "startswith"
  | .split2 => "split"
  | .split1 => "split"
  | .part => "partition"
def BM.ar : BM → Nat
  | .split2 => 2
  | _ => 1
mutual
/-- the slots that a target fills -/
def Tg.slots : Tg → List Nat
  | .nm i => [i]
  | .tp ts => Tg.slotsL ts
def Tg.slotsL : List Tg → List Nat
  | [] => []
  | t :: ts => t.slots ++ Tg.slotsL ts
end
mutual
def ck (Z : Sta) : E → Expr → Bool
  | .bad, _ => true
  | .var i, .Name x _ => decide (Z.N[i]? = some x) && visB Z.sc x && nameOk x
  | .non, .Constant .none _ _ => true
  | .bl b, .Constant (.bool b') _ _ => b == b'
  | .int i, .Constant (.int i') _ _ => decide (i' = i)
  | .str x, .Constant (.str x') _ _ => decide (x' = x)
  | .glob x, .Name x' _ => decide (x' = x) && glB Z.sc x && nameOk x
  | .bin o a b, .BinOp a' o' b' _ => decide (o' = o.op) && ck Z a a' && ck Z b b'
  | .neg a, .UnaryOp .USub a' _ => ck Z a a'
  | .not a, .UnaryOp .Not a' _ => ck Z a a'
  | .cmp o a b, .Compare a' [o'] [b'] _ => decide (o' = o.op) && notSet b' && ck Z a a' && ck Z b b'
  | .cmp2 o o2 a b c, .Compare a' [o', o2'] [b', c'] _ => decide (o' = o.op) && decide (o2' = o2.op) && notSet b' && notSet c' && ck Z a a' && ck Z b b' && ck Z c c'
  | .and a b, .BoolOp .And (a' :: b' :: r) p => ck Z a a' && ckB Z true b (b' :: r)
  | .or a b, .BoolOp .Or (a' :: b' :: r) p => ck Z a a' && ckB Z false b (b' :: r)
  | .ife c a b, .IfExp c' a' b' _ => ckT Z c c' && ck Z a a' && ck Z b b'
  | .tup es, .Tuple es' _ _ => ckL Z es es'
  | .lst es, .List es' _ => ckL Z es es'
  | .lstC es, .List es' _ => ckL Z es es'
  | .sub a i, .Subscript a' i' _ => plainIx i' && ck Z a a' && ck Z i i'
  | .f1 f a, .Call (.Name x _) [a'] [] _ => !Z.hot && decide (x = Str.ofString f.nm) && (f.ok || f.isT) && glB Z.sc x && noStar a' && ck Z a a'
  | .max2 a b, .Call (.Name x _) [a', b'] [] _ => !Z.hot && decide (x = ("max" : Str)) && glB Z.sc x && noStar a' && noStar b' && ck Z a a' && ck Z b b'
  | .min2 a b, .Call (.Name x _) [a', b'] [] _ => !Z.hot && decide (x = ("min" : Str)) && glB Z.sc x && noStar a' && noStar b' && ck Z a a' && ck Z b b'
  | .isin a t, .Call (.Name x _) [a', .Name y _] [] _ => decide (x = ("isinstance" : Str)) && decide (y = Str.ofString t.nm) && glB Z.sc x && glB Z.sc y && noStar a' && ck Z a a'
  | .isown a c, .Call (.Name x _) [a', .Name y _] [] _ => decide (x = ("isinstance" : Str)) && decide (y = c) && glB Z.sc x && glB Z.sc y && nameOk y && noStar a' && ck Z a a'
  | .call f es, .Call (.Name x _) es' [] _ => !Z.hot && decide (x = f) && Z.fs.contains f && glB Z.sc x && nameOk x && ckL Z es es'
  | .xfld i f, .Attribute (.Name x _) f' _ => Z.hot && decide (f' = f) && decide (Z.N[i]? = some x) && visB Z.sc x && nameOk x
  | .xis i y, .Call (.Name x _) [.Name n _, .Name z _] [] _ => Z.hot && decide (x = ("isinstance" : Str)) && decide (z = y) && decide (Z.N[i]? = some n) && glB Z.sc x && visB Z.sc n && nameOk n && glB Z.sc z && nameOk z
  | .rev a, .Subscript a' (.Slice none none (some (.UnaryOp .USub (.Constant (.int n) _ _) _)) _) _ => decide (n = 1) && ck Z a a'
  | .fmt a, .FormattedValue a' cv none _ => decide (cv = -1) && ck Z a a'
  | .joined es, .JoinedStr es' _ => decide (2 ≤ es'.length) && ckL Z es es'
  | .eqo n a b, .Compare a' [o'] [b'] _ => !Z.hot && decide (o' = eqOp n) && notSet b' && ck Z a a' && ck Z b b'
  | .stro a, .Call (.Name x _) [a'] [] _ => !Z.hot && decide (x = ("str" : Str)) && glB Z.sc x && noStar a' && ck Z a a'
  | .bm m a es, .Call (.Attribute o f ap) es' [] cp => !Z.hot && decide (f = m.nm) && plainBase o && (ap.endLine == cp.line) && decide (es'.length < 30) && decide (es'.length = m.ar) && ck Z a o && ckL Z es es'
  | .slice a lo hi, .Subscript a' (.Slice lo' hi' none _) _ => ck Z a a' && (match lo' with | none => partE lo | some e => !partE lo && ck Z lo e) && (match hi' with | none => partE hi | some e => !partE hi && ck Z hi e)
  | .attr a f, .Attribute o f' _ => !Z.hot && decide (f' = f) && plainBase o && ck Z a o
  | .meth a m es, .Call (.Attribute o f ap) es' [] cp => !Z.hot && decide (f = m) && plainBase o && (ap.endLine == cp.line) && decide (es'.length < 30) && ck Z a o && ckL Z es es'
  | .make c es md, .Call (.Name x _) es' [] _ => !Z.hot && decide (x = c) && glB Z.sc x && nameOk x && ckL Z es es'
  | .dic es, .Dict ks vs _ => ks.all (·.isSome) && decide (ks.length = vs.length) && decide (ks.length ≤ 15) && ckP Z es ks vs
  | .cat c a, .Attribute (.Name x _) f _ => decide (x = c) && decide (f = a) && glB Z.sc x && nameOk x
  | .scall c m es, .Call (.Attribute (.Name x _) f ap) es' [] cp => !Z.hot && decide (x = c) && decide (f = m) && Z.ss.contains (c, m) && glB Z.sc x && nameOk x && (ap.endLine == cp.line) && decide (es'.length < 30) && ckL Z es es'
  | .join a b, .Call (.Attribute (.Constant (.str z) zk zp) f ap) [b'] [] cp => decide (f = ("join" : Str)) && (ap.endLine == cp.line) && noStar b' && ck Z a (.Constant (.str z) zk zp) && ck Z b b'
  | .comp t s cs e own, .ListComp e' [⟨tg, it, ifs, n⟩] scope _ =>
      !Z.hot && decide (n = 0) && blkC Z.N Z.sc scope (own.map fun i => (slotName Z.N i, i)) && notSet it && t.slots.all (fun i => own.contains i) &&
      ckTg (Z.blk scope) t tg && ckSrc Z s it &&
      ckC (Z.blk scope) cs ifs && ck (Z.blk scope) e e'
  | _, _ => false
/-- the rest of an and, an or -/
def ckB (Z : Sta) (isAnd : Bool) : E → List Expr → Bool
  | .one a, [a'] => ck Z a a'
  | .and a b, a' :: b' :: r => isAnd && ck Z a a' && ckB Z isAnd b (b' :: r)
  | .or a b, a' :: b' :: r => !isAnd && ck Z a a' && ckB Z isAnd b (b' :: r)
  | _, _ => false
def ckL (Z : Sta) : List E → List Expr → Bool
  | [], [] => true
  | e :: es, e' :: es' => noStar e' && ck Z e e' && ckL Z es es'
  | _, _ => false
def ckP (Z : Sta) : List E → List (Option Expr) → List Expr → Bool
  | [], [], [] => true
  | k :: v :: r, some k' :: ks, v' :: vs => ck Z k k' && ck Z v v' && ckP Z r ks vs
  | _, _, _ => false
def ckC (Z : Sta) : List T → List Expr → Bool
  | [], [] => true
  | [c], [c'] => ckT Z c c'
  | _, _ => false
def ckT (Z : Sta) : T → Expr → Bool
  | .e a, a' => plainT a' && ck Z a a'
  | .cmp o a b, .Compare a' [o'] [b'] _ => decide (o' = o.op) && notSet b' && ck Z a a' && ck Z b b'
  | .cmp2 o o2 a b c, .Compare a' [o', o2'] [b', c'] _ => decide (o' = o.op) && decide (o2' = o2.op) && notSet b' && notSet c' && ck Z a a' && ck Z b b' && ck Z c c'
  | .not a, .UnaryOp .Not a' _ => ckT Z a a'
  | .and a b, .BoolOp .And (a' :: b' :: r) p => ckT Z a a' && ckTB Z true b (b' :: r)
  | .or a b, .BoolOp .Or (a' :: b' :: r) p => ckT Z a a' && ckTB Z false b (b' :: r)
  | .ife c a b, .IfExp c' a' b' _ => ckT Z c c' && ckT Z a a' && ckT Z b b'
  | .eqo n a b, .Compare a' [o'] [b'] _ => !Z.hot && decide (o' = eqOp n) && notSet b' && ck Z a a' && ck Z b b'
  | _, _ => false
def ckTB (Z : Sta) (isAnd : Bool) : T → List Expr → Bool
  | .one a, [a'] => ckT Z a a'
  | .and a b, a' :: b' :: r => isAnd && ckT Z a a' && ckTB Z isAnd b (b' :: r)
  | .or a b, a' :: b' :: r => !isAnd && ckT Z a a' && ckTB Z isAnd b (b' :: r)
  | _, _ => false
def ckSrc (Z : Sta) : Src → Expr → Bool
  | .rng1 a, .Call (.Name x _) [a'] [] _ => decide (x = ("range" : Str)) && glB Z.sc x && noStar a' && ck Z a a'
  | .rng2 a b, .Call (.Name x _) [a', b'] [] _ => decide (x = ("range" : Str)) && glB Z.sc x && noStar a' && noStar b' && ck Z a a' && ck Z b b'
  | .val e, e' => ck Z e e'
  | _, _ => false
end
end I3

set_option Elab.async false
set_option linter.all false
set_option autoImplicit false
set_option maxRecDepth 100000
set_option maxHeartbeats 2000000
/-! I3g: the checker is right: expressions. -/
namespace I3
open PySem PySem.Spec PyProof.Rows L2

/-! ### helpers -/
def NoExc {β : Type} (r : Res β) : Prop := ∀ c fs κ, r ≠ .exc c fs κ
theorem scBin_nx {o : Bop} {d e : D} {κ : Store} : NoExc (scBin o d e κ) := by
  intro c fs κ' h
  unfold scBin at h
  split at h <;> first | (cases h; done) | (split at h <;> cases h)
theorem opBin_nx {o : Bop} {d e : D} {κ : Store} : NoExc (opBin o d e κ) := by
  intro c fs κ' h
  unfold opBin at h
  split at h
  · rename_i r q
    unfold seqBin at q
    split at q <;> (first | (cases q; done) | skip)
    all_goals (cases q; split at h <;> cases h)
  · exact scBin_nx _ _ _ h
theorem opCmp_nx {o : Cop} {d e : D} {κ : Store} : NoExc (opCmp o d e κ) := by
  intro c fs κ' h
  unfold opCmp at h
  split at h <;> first | (cases h; done) | (split at h <;> first | (cases h; done) | (split at h <;> cases h))
theorem ixSub_nx {d e : D} {κ : Store} : NoExc (ixSub d e κ) := by
  intro c fs κ' h
  unfold ixSub at h
  split at h <;> first | (cases h; done) | skip
  split at h <;> first | (cases h; done) | skip
  all_goals (split at h <;> first | (cases h; done) | skip)
  all_goals (split at h <;> cases h)
theorem opSub_nx {d e : D} {κ : Store} : NoExc (opSub d e κ) := by
  intro c fs κ' h
  unfold opSub at h
  split at h
  · unfold opKey at h
    split at h
    · split at h <;> cases h
    · cases h
  · exact ixSub_nx _ _ _ h
theorem opDic_nx {ds : List D} {κ : Store} : NoExc (opDic ds κ) := by
  intro c fs κ' h
  unfold opDic at h
  split at h
  · split at h <;> cases h
  · cases h
theorem opF1_nx {f : F1} {d : D} {κ : Store} : NoExc (opF1 f d κ) := by
  intro c fs κ' h
  unfold opF1 at h
  split at h <;> first | (cases h; done) | skip
  all_goals (split at h <;> first | (cases h; done) | skip)
  all_goals (split at h <;> first | (cases h; done) | skip)
  all_goals (split at h <;> cases h)
section
variable {K : PySem.W.Frag} {B : Hp} {W : WX} {σ : L2.St} {H : Hp} {α : List Addr} {F : Hp} {κ : Store} {ρ : Env'} {Q : VK}
theorem Post.p {r : Res D} (h : Post K B W σ α F Q r) (n : NoExc r) : PostP K B α F Q r := PostP.post h n
theorem tE_bad {m : Env' → Store → Res D} {t : TE} (hm : ∀ ρ κ, m ρ κ = .bad) : tE K W m σ H Q → t σ H Q := by
  rintro ⟨B, α, F, κ, ρ, _, _, q⟩
  rw [hm] at q
  exact False.elim q
theorem pe_bad {X : Cx} {e : Expr} {m : Env' → Store → Res D} (hm : ∀ ρ κ, m ρ κ = .bad) : PE X e (tE K W m) := ⟨fun _ _ _ _ _ _ ⟨B, α, F, κ, ρ, _, _, q⟩ => by
  rw [hm] at q
  exact False.elim q⟩
theorem pt_bad {X : Cx} {e : Expr} {m : Env' → Store → Res Bool} (hm : ∀ ρ κ, m ρ κ = .bad) : PT X e (tT K W m) := ⟨fun _ _ _ _ _ _ ⟨B, α, F, κ, ρ, _, _, q⟩ => by
  rw [hm] at q
  exact False.elim q⟩
/-- a constant's reading -/
theorem tE_c {d : D} {v : V} (r : ∀ α F, Rep K α F d v) : tE K W (fun _ κ => .ok d κ) σ H Q → tC v σ H Q := by
  rintro ⟨B, α, F, κ, ρ, S, E, q⟩
  exact q v H α F (AExt.refl α) (FExt.refl F) S (r α F)
theorem tE_op {ma mb : Env' → Store → Res D} {f : D → D → Store → Res D} (hn : ∀ x y κ, NoExc (f x y κ)) :
    tE K W (fun ρ κ => (ma ρ κ).bind fun x κ => (mb ρ κ).bind fun y κ => f x y κ) σ H Q → tOp (r2S K f) (tE K W ma) (tE K W mb) σ H Q := by
  rintro ⟨B, α, F, κ, ρ, S, E, q⟩
  refine tE_seq S E q fun d1 κ1 v1 H1 α1 F1 _ a1 f1 S1 E1 r1 q1 => ?_
  refine tE_seq S1 E1 q1 fun d2 κ2 v2 H2 α2 F2 _ a2 f2 S2 E2 r2 q2 => ?_
  exact ⟨B, α2, F2, κ2, d1, d2, S2, r1.mono a2 f2, r2, q2.p (hn _ _ _)⟩
/-- one after the other, tests -/
theorem tT_seq {m : Env' → Store → Res Bool} {β : Type} {f : Bool → Store → Res β} {PQ : List Addr → Hp → Res β → Prop} {R : Bool → Hp → Prop} (S : St K B α F κ H) (E : RepE K α F ρ σ) (h : PQ α F ((m ρ κ).bind f))
    (mono : ∀ {α F α1 F1 r}, AExt α α1 → FExt F F1 → PQ α F r → PQ α1 F1 r) (hx : ∀ c fs κ1, PQ α F (.exc c fs κ1) → PostX K B W σ α F c fs κ1) (hb : PQ α F .bad → False)
    (k : ∀ b κ1 H1 α1 F1, m ρ κ = .ok b κ1 → AExt α α1 → FExt F F1 → St K B α1 F1 κ1 H1 → RepE K α1 F1 ρ σ → PQ α1 F1 (f b κ1) → R b H1) : tT K W m σ H R := by
  refine ⟨B, α, F, κ, ρ, S, E, ?_⟩
  cases e : m ρ κ with
  | ok d κ1 =>
    rw [e] at h
    exact fun H1 α1 F1 a1 f1 S1 => k d κ1 H1 α1 F1 e a1 f1 S1 (E.mono a1 f1) (mono a1 f1 h)
  | exc c fs κ1 =>
    rw [e] at h
    exact hx _ _ _ h
  | bad =>
    rw [e] at h
    exact (hb h).elim
/-- .. expressions ahead of anything -/
theorem tE_seqG {m : Env' → Store → Res D} {β : Type} {f : D → Store → Res β} {PQ : List Addr → Hp → Res β → Prop} {R : VK} (S : St K B α F κ H) (E : RepE K α F ρ σ) (h : PQ α F ((m ρ κ).bind f))
    (mono : ∀ {α F α1 F1 r}, AExt α α1 → FExt F F1 → PQ α F r → PQ α1 F1 r) (hx : ∀ c fs κ1, PQ α F (.exc c fs κ1) → PostX K B W σ α F c fs κ1) (hb : PQ α F .bad → False)
    (k : ∀ d κ1 v H1 α1 F1, m ρ κ = .ok d κ1 → AExt α α1 → FExt F F1 → St K B α1 F1 κ1 H1 → RepE K α1 F1 ρ σ → Rep K α1 F1 d v → PQ α1 F1 (f d κ1) → R v H1) : tE K W m σ H R := by
  refine ⟨B, α, F, κ, ρ, S, E, ?_⟩
  cases e : m ρ κ with
  | ok d κ1 =>
    rw [e] at h
    exact fun v H1 α1 F1 a1 f1 S1 r1 => k d κ1 v H1 α1 F1 e a1 f1 S1 (E.mono a1 f1) r1 (mono a1 f1 h)
  | exc c fs κ1 =>
    rw [e] at h
    exact hx _ _ _ h
  | bad =>
    rw [e] at h
    exact (hb h).elim
theorem tA_seqG {m : Env' → Store → Res (List D)} {β : Type} {f : List D → Store → Res β} {PQ : List Addr → Hp → Res β → Prop} {R : List V → Hp → Prop} (S : St K B α F κ H) (E : RepE K α F ρ σ) (h : PQ α F ((m ρ κ).bind f))
    (mono : ∀ {α F α1 F1 r}, AExt α α1 → FExt F F1 → PQ α F r → PQ α1 F1 r) (hx : ∀ c fs κ1, PQ α F (.exc c fs κ1) → PostX K B W σ α F c fs κ1) (hb : PQ α F .bad → False)
    (k : ∀ d κ1 v H1 α1 F1, m ρ κ = .ok d κ1 → AExt α α1 → FExt F F1 → St K B α1 F1 κ1 H1 → RepE K α1 F1 ρ σ → RepL K α1 F1 d v → PQ α1 F1 (f d κ1) → R v H1) : tA K W m σ H R := by
  refine ⟨B, α, F, κ, ρ, S, E, ?_⟩
  cases e : m ρ κ with
  | ok d κ1 =>
    rw [e] at h
    exact fun v H1 α1 F1 a1 f1 S1 r1 => k d κ1 v H1 α1 F1 e a1 f1 S1 (E.mono a1 f1) r1 (mono a1 f1 h)
  | exc c fs κ1 =>
    rw [e] at h
    exact hx _ _ _ h
  | bad =>
    rw [e] at h
    exact (hb h).elim
theorem PostI.mono {α1 : List Addr} {F1 : Hp} {R : It → Hp → Prop} {r : Res Itm} (ha : AExt α α1) (hf : FExt F F1) (h : PostI K B W σ α F R r) : PostI K B W σ α1 F1 R r := by
  cases r with
  | ok d κ => exact fun T H' α' F' a f => h T H' α' F' (ha.trans a) (hf.trans f)
  | exc c fs κ => exact PostX.mono ha hf h
  | bad => exact h
end
theorem vis_of {X : Cx} {sc : Scope} {x : Str} (h : X.env.scope = sc) (v : visB sc x = true) : Vis X.env.scope x := by
  rw [h]
  unfold visB at v
  split at v
  · exact .inl (by assumption)
  · exact .inr (.inl (by assumption))
  · exact .inr (.inr (by assumption))
  · cases v
theorem gl_of {X : Cx} {sc : Scope} {x : Str} (h : X.env.scope = sc) (v : glB sc x = true) : Gl X x := by
  show X.env.scope.names.lookup x = some .globalImplicit
  rw [h]
  unfold glB at v
  split at v
  · assumption
  · cases v
theorem nameOk_of {x : Str} (h : nameOk x = true) : (x == ("__debug__" : Str)) = false ∧ (x == ("__classdict__" : Str)) = false := by
  unfold nameOk at h
  simp only [Bool.and_eq_true, Bool.not_eq_true'] at h
  exact h
theorem noStar_each {e : Expr} {es : List Expr} {env : Env} (h : noStar e = true) : starEach (e :: es) env = (false, eval e env) :: starEach es env := by
  cases e <;> first | rfl | cases h
theorem plainIx_of {b : Expr} (h : plainIx b = true) : PlainIx b := by
  intro o i
  cases b <;> first | rfl | cases h
theorem notSet_marks {op : CmpOp} {b : Expr} (h : notSet b = true) : behindInMarks op b = false := by
  cases b <;> first | rfl | cases h
theorem notSet_last {op op2 : CmpOp} {b c : Expr} (h : notSet b = true) (h2 : notSet c = true) : lastMarks [op, op2] [b, c] = false := by
  cases b <;> first | (cases h; done) | (cases c <;> first | rfl | cases h2)
theorem notSet_fold {e : Expr} (h : notSet e = true) : ∀ (env : Env) (x : Value), foldedSetIterable e env x = pure x := by
  intro env x
  cases e <;> first | rfl | cases h
end I3

set_option Elab.async false
set_option linter.all false
set_option autoImplicit false
set_option maxRecDepth 100000
set_option maxHeartbeats 4000000
/-! I3h: the checker is right: expressions. -/
namespace I3
open PySem PySem.Spec PyProof.Rows L2
section
variable {X : Cx} {N : List Str} {sc : Scope} {fnB : Str → Bool} {k : Nat} {W : WX} {G : Gam}
theorem Res.bind_assoc {β δ η : Type} (r : Res β) (f : β → Store → Res δ) (g : δ → Store → Res η) : (r.bind f).bind g = r.bind fun a κ => (f a κ).bind g := by
  cases r <;> rfl
theorem opCmp_bl {o : Cop} {d e z : D} {κ κ' : Store} (h : opCmp o d e κ = .ok z κ') : ∃ b, z = .bl b ∧ κ' = κ := by
  unfold opCmp at h
  split at h <;> first | (cases h; done) | (split at h <;> first | (cases h; done) | (cases h; exact ⟨_, rfl, rfl⟩) | (split at h <;> first | (cases h; done) | (cases h; exact ⟨_, rfl, rfl⟩)))
/-- a list of ints in place of a test's reading -/
theorem tT_of {K : PySem.W.Frag} {σ : L2.St} {H : Hp} {Q : Bool → Hp → Prop} {m : Env' → Store → Res D} :
    tT K W (fun ρ κ => (m ρ κ).bind fun x κ => (match truth x κ with | some b => .ok b κ | none => .bad)) σ H Q → tE K W m σ H fun x H' => ∃ k, TruV K x H' k ∧ Q k H' := by
  rintro ⟨B, α, F, κ, ρ, S, E, q⟩
  refine tE_seqG S E (PQ := fun α F r => PostT K B W σ α F Q r) q PostT.mono (fun _ _ _ h => h) (fun h => h) fun d κ1 v H1 α1 F1 _ a1 f1 S1 E1 r1 q1 => ?_
  cases c : truth d κ1 with
  | none => rw [c] at q1; exact False.elim q1
  | some b =>
    rw [c] at q1
    exact ⟨b, ok_truth S1 r1 c, q1 H1 α1 F1 (AExt.refl _) (FExt.refl _) S1⟩
/-- the test of a plain expression -/
theorem pt_plain {e : Expr} {m : Env' → Store → Res D} (hp : plainT e = true) (h : PE X e (tE X.K W m)) : PT X e (tT X.K W (fun ρ κ => (m ρ κ).bind fun x κ => (match truth x κ with | some b => .ok b κ | none => .bad))) :=
  pt_imp (pt_truth h (by
    intro whole
    cases e <;> first | rfl | (cases hp; done) | (rename_i op a p; cases op <;> first | rfl | cases hp))) fun _ _ _ => tT_of
/-- .. of a comparison -/
theorem tT_cmp {K : PySem.W.Frag} {σ : L2.St} {H : Hp} {Q : Bool → Hp → Prop} {ma mb : Env' → Store → Res D} {o : Cop} :
    tT K W (fun ρ κ => ((ma ρ κ).bind fun x κ => (mb ρ κ).bind fun y κ => opCmp o x y κ).bind fun x κ => (match truth x κ with | some b => .ok b κ | none => .bad)) σ H Q →
    tTest (tOp (r2S K (opCmp o)) (tE K W ma) (tE K W mb)) σ H Q := by
  rintro ⟨B, α, F, κ, ρ, S, E, q⟩
  have q0 : PostT K B W σ α F Q ((ma ρ κ).bind fun x κ => (mb ρ κ).bind fun y κ => (opCmp o x y κ).bind fun x κ => (match truth x κ with | some b => .ok b κ | none => .bad)) := by
    simpa only [Res.bind_assoc] using q
  refine tE_seqG S E (PQ := fun α F r => PostT K B W σ α F Q r) q0 PostT.mono (fun _ _ _ h => h) (fun h => h) fun d1 κ1 v1 H1 α1 F1 _ a1 f1 S1 E1 r1 q1 => ?_
  refine tE_seqG S1 E1 (PQ := fun α F r => PostT K B W σ α F Q r) q1 PostT.mono (fun _ _ _ h => h) (fun h => h) fun d2 κ2 v2 H2 α2 F2 _ a2 f2 S2 E2 r2 q2 => ?_
  refine ⟨B, α2, F2, κ2, d1, d2, S2, r1.mono a2 f2, r2, ?_⟩
  cases c : opCmp o d1 d2 κ2 with
  | ok z κ3 =>
    obtain ⟨b, rfl, rfl⟩ := opCmp_bl c
    rw [c] at q2
    intro v H3 α3 F3 a3 f3 S3 r3
    obtain rfl := r3
    exact ⟨b, rfl, q2 H3 α3 F3 a3 f3 S3⟩
  | exc c' fs κ3 => exact absurd c (opCmp_nx _ _ _)
  | bad => rw [c] at q2; exact False.elim q2
/-- a chain of two comparisons -/
theorem tE_chain {K : PySem.W.Frag} {σ : L2.St} {H : Hp} {Q : VK} {ma mb mc : Env' → Store → Res D} {o o2 : Cop} :
    tE K W (fun ρ κ => (ma ρ κ).bind fun x κ => (mb ρ κ).bind fun y κ => (opCmp o x y κ).bind fun z κ => (match z with
      | .bl true => (mc ρ κ).bind fun w κ => opCmp o2 y w κ
      | .bl false => .ok (.bl false) κ
      | _ => .bad)) σ H Q → tChain (r2S K (opCmp o)) (r2S K (opCmp o2)) (tE K W ma) (tE K W mb) (tE K W mc) σ H Q := by
  rintro ⟨B, α, F, κ, ρ, S, E, q⟩
  refine tE_seq S E q fun d1 κ1 v1 H1 α1 F1 _ a1 f1 S1 E1 r1 q1 => ?_
  refine tE_seq S1 E1 q1 fun d2 κ2 v2 H2 α2 F2 _ a2 f2 S2 E2 r2 q2 => ?_
  refine ⟨B, α2, F2, κ2, d1, d2, S2, r1.mono a2 f2, r2, ?_⟩
  cases c : opCmp o d1 d2 κ2 with
  | ok z κ3 =>
    obtain ⟨b, rfl, rfl⟩ := opCmp_bl c
    rw [c] at q2
    intro v H3 α3 F3 a3 f3 S3 r3
    obtain rfl := r3
    refine ⟨b, rfl, ?_⟩
    cases b with
    | false =>
      show Q (.bl false) H3
      exact q2 _ H3 α3 F3 a3 f3 S3 rfl
    | true =>
      rw [if_pos rfl]
      refine tE_seq S3 (E2.mono a3 f3) (Post.mono a3 f3 q2) fun d4 κ4 v4 H4 α4 F4 _ a4 f4 S4 E4 r4 q4 => ?_
      exact ⟨B, α4, F4, κ4, d2, d4, S4, r2.mono (a3.trans a4) (f3.trans f4), r4, Post.p q4 opCmp_nx⟩
  | exc c' fs κ3 => exact absurd c (opCmp_nx _ _ _)
  | bad => rw [c] at q2; exact False.elim q2
theorem tT_chain {K : PySem.W.Frag} {σ : L2.St} {H : Hp} {Q : Bool → Hp → Prop} {ma mb mc : Env' → Store → Res D} {o o2 : Cop} :
    tT K W (fun ρ κ => ((ma ρ κ).bind fun x κ => (mb ρ κ).bind fun y κ => (opCmp o x y κ).bind fun z κ => (match z with
      | .bl true => (mc ρ κ).bind fun w κ => opCmp o2 y w κ
      | .bl false => .ok (.bl false) κ
      | _ => .bad)).bind fun x κ => (match truth x κ with | some b => .ok b κ | none => .bad)) σ H Q →
    tTest (tChain (r2S K (opCmp o)) (r2S K (opCmp o2)) (tE K W ma) (tE K W mb) (tE K W mc)) σ H Q := by
  intro h
  refine tE_chain ?_
  obtain ⟨B, α, F, κ, ρ, S, E, q⟩ := h
  refine ⟨B, α, F, κ, ρ, S, E, ?_⟩
  dsimp only at q ⊢
  revert q
  generalize hm : ((ma ρ κ).bind fun x κ => (mb ρ κ).bind fun y κ => (opCmp o x y κ).bind fun z κ => (match z with
      | .bl true => (mc ρ κ).bind fun w κ => opCmp o2 y w κ
      | .bl false => .ok (.bl false) κ
      | _ => .bad) : Res D) = m
  intro q
  cases m with
  | ok z κ' =>
    have hb : ∃ b, z = .bl b := by
      revert hm
      cases ma ρ κ with
      | ok x κ1 =>
        simp only [Res.bind_ok]
        cases mb ρ κ1 with
        | ok y κ2 =>
          simp only [Res.bind_ok]
          cases c : opCmp o x y κ2 with
          | ok w κ3 =>
            obtain ⟨b, rfl, rfl⟩ := opCmp_bl c
            simp only [Res.bind_ok]
            cases b with
            | true =>
              dsimp only
              cases mc ρ κ3 with
              | ok w κ4 =>
                simp only [Res.bind_ok]
                intro h
                obtain ⟨b, e, _⟩ := opCmp_bl h
                exact ⟨b, e⟩
              | exc _ _ _ => exact fun h => by cases h
              | bad => exact fun h => by cases h
            | false => exact fun h => by cases h; exact ⟨_, rfl⟩
          | exc _ _ _ => exact fun h => by cases h
          | bad => exact fun h => by cases h
        | exc _ _ _ => exact fun h => by cases h
        | bad => exact fun h => by cases h
      | exc _ _ _ => exact fun h => by cases h
      | bad => exact fun h => by cases h
    obtain ⟨b, rfl⟩ := hb
    intro v H' α' F' a f S' r
    obtain rfl := r
    exact ⟨b, rfl, q H' α' F' a f S'⟩
  | exc c fs κ' => exact q
  | bad => exact q
end
section
variable {K : PySem.W.Frag} {α : List Addr} {F : Hp} {n j : Nat} {t : D}
mutual
theorem Rep.take : ∀ {d : D} {v : V}, closed n d = true → Rep K α F d v → Rep K (α.take n) F d v
  | .non, _, _, h => h
  | .bl _, _, _, h => h
  | .int _, _, _, h => h
  | .str _, _, _, h => h
  | .tup ds, v, c, h => by
    unfold Rep at h ⊢
    obtain ⟨a, vs, e, s, r⟩ := h
    exact ⟨a, vs, e, s, RepL.takeA c r⟩
  | .lst ds, v, c, h => by
    unfold Rep at h ⊢
    obtain ⟨a, vs, e, s, r⟩ := h
    exact ⟨a, vs, e, s, RepL.takeA c r⟩
  | .dic kvs, v, c, h => by
    unfold Rep at h ⊢
    obtain ⟨a, vs, e, s, r⟩ := h
    exact ⟨a, vs, e, s, RepK.takeA c r⟩
  | .ins cc fs, v, c, h => by
    unfold Rep at h ⊢
    obtain ⟨a, dx, vs, e, s, r⟩ := h
    exact ⟨a, dx, vs, e, s, RepF.takeA c r⟩
  | .gl _, _, _, h => h
  | .cell i, v, c, h => by
    unfold Rep at h ⊢
    obtain ⟨a, e, r⟩ := h
    have hi : i < n := of_decide_eq_true c
    exact ⟨a, by rw [List.getElem?_take_of_lt hi]; exact e, r⟩
  | .exn a dx cc fs, v, c, h => by
    unfold Rep at h ⊢
    obtain ⟨us, e, s, r⟩ := h
    exact ⟨us, e, s, RepF.takeA c r⟩
theorem RepL.takeA : ∀ {ds : List D} {vs : List V}, closedL n ds = true → RepL K α F ds vs → RepL K (α.take n) F ds vs
  | [], _, _, h => h
  | d :: ds, vs, c, h => by
    unfold RepL at h ⊢
    unfold closedL at c
    simp only [Bool.and_eq_true] at c
    obtain ⟨v, r, e, h1, h2⟩ := h
    exact ⟨v, r, e, Rep.take c.1 h1, RepL.takeA c.2 h2⟩
theorem RepK.takeA : ∀ {ds : List (Key × D)} {vs : List (Key × V)}, closedK n ds = true → RepK K α F ds vs → RepK K (α.take n) F ds vs
  | [], _, _, h => h
  | (k, d) :: ds, vs, c, h => by
    unfold RepK at h ⊢
    unfold closedK at c
    simp only [Bool.and_eq_true] at c
    obtain ⟨v, r, e, h1, h2⟩ := h
    exact ⟨v, r, e, Rep.take c.1 h1, RepK.takeA c.2 h2⟩
theorem RepF.takeA : ∀ {ds : List (Str × D)} {vs : List (Str × V)}, closedF n ds = true → RepF K α F ds vs → RepF K (α.take n) F ds vs
  | [], _, _, h => h
  | (k, d) :: ds, vs, c, h => by
    unfold RepF at h ⊢
    unfold closedF at c
    simp only [Bool.and_eq_true] at c
    obtain ⟨v, r, e, h1, h2⟩ := h
    exact ⟨v, r, e, Rep.take c.1 h1, RepF.takeA c.2 h2⟩
end
mutual
theorem Rep.sub (ht : ∀ a, α[j]? = some a → Rep K α F t (.ref a)) : ∀ {d : D} {v : V}, Rep K α F d v → Rep K α F (sub j t d) v
  | .non, _, h => h
  | .bl _, _, h => h
  | .int _, _, h => h
  | .str _, _, h => h
  | .tup ds, v, h => by
    unfold I3.sub
    unfold Rep at h ⊢
    obtain ⟨a, vs, e, s, r⟩ := h
    exact ⟨a, vs, e, s, RepL.sub ht r⟩
  | .lst ds, v, h => by
    unfold I3.sub
    unfold Rep at h ⊢
    obtain ⟨a, vs, e, s, r⟩ := h
    exact ⟨a, vs, e, s, RepL.sub ht r⟩
  | .dic kvs, v, h => by
    unfold I3.sub
    unfold Rep at h ⊢
    obtain ⟨a, vs, e, s, r⟩ := h
    exact ⟨a, vs, e, s, RepK.sub ht r⟩
  | .ins cc fs, v, h => by
    unfold I3.sub
    unfold Rep at h ⊢
    obtain ⟨a, dx, vs, e, s, r⟩ := h
    exact ⟨a, dx, vs, e, s, RepF.sub ht r⟩
  | .gl _, _, h => h
  | .cell i, v, h => by
    unfold I3.sub
    by_cases e : i = j
    · rw [if_pos e]
      subst e
      unfold Rep at h
      obtain ⟨a, ha, rfl⟩ := h
      exact ht a ha
    · rw [if_neg e]
      exact h
  | .exn a dx cc fs, v, h => by
    unfold I3.sub
    unfold Rep at h ⊢
    obtain ⟨us, e, s, r⟩ := h
    exact ⟨us, e, s, RepF.sub ht r⟩
theorem RepL.sub (ht : ∀ a, α[j]? = some a → Rep K α F t (.ref a)) : ∀ {ds : List D} {vs : List V}, RepL K α F ds vs → RepL K α F (subL j t ds) vs
  | [], _, h => h
  | d :: ds, vs, h => by
    unfold subL
    unfold RepL at h ⊢
    obtain ⟨v, r, e, h1, h2⟩ := h
    exact ⟨v, r, e, Rep.sub ht h1, RepL.sub ht h2⟩
theorem RepK.sub (ht : ∀ a, α[j]? = some a → Rep K α F t (.ref a)) : ∀ {ds : List (Key × D)} {vs : List (Key × V)}, RepK K α F ds vs → RepK K α F (subK j t ds) vs
  | [], _, h => h
  | (k, d) :: ds, vs, h => by
    unfold subK
    unfold RepK at h ⊢
    obtain ⟨v, r, e, h1, h2⟩ := h
    exact ⟨v, r, e, Rep.sub ht h1, RepK.sub ht h2⟩
theorem RepF.sub (ht : ∀ a, α[j]? = some a → Rep K α F t (.ref a)) : ∀ {ds : List (Str × D)} {vs : List (Str × V)}, RepF K α F ds vs → RepF K α F (subF j t ds) vs
  | [], _, h => h
  | (k, d) :: ds, vs, h => by
    unfold subF
    unfold RepF at h ⊢
    obtain ⟨v, r, e, h1, h2⟩ := h
    exact ⟨v, r, e, Rep.sub ht h1, RepF.sub ht h2⟩
end
theorem Rep.resolve : ∀ (ls : List D) (b : Nat), (∀ (i : Nat) (o : D), ls[i]? = some o → live o = true → ∀ a, α[b + i]? = some a → Rep K α F o (.ref a)) → ∀ {d : D} {v : V}, Rep K α F d v → Rep K α F (resolve b ls d) v
  | [], b, _, d, v, h => h
  | o :: ls, b, hl, d, v, h => by
    have ih : ∀ {d : D} {v : V}, Rep K α F d v → Rep K α F (I3.resolve (b + 1) ls d) v := Rep.resolve ls (b + 1) fun i x e l a ha => hl (i + 1) x (by simpa using e) l a (by rw [← ha]; congr 1; omega)
    unfold I3.resolve
    cases l : live o with
    | false => exact ih h
    | true => exact Rep.sub (fun a ha => ih (hl 0 o rfl l a ha)) (ih h)
end
/-- cells of S become frozen -/
def FrzP (α : List Addr) (κ : Store) (S : Nat → Prop) (a : Addr) : Prop := ∃ i d, S i ∧ α[i]? = some a ∧ κ[i]? = some d ∧ live d = true
open Classical in
noncomputable def frzH (α : List Addr) (κ : Store) (S : Nat → Prop) (F H : Hp) : Hp := fun a => match F a with
  | some o => some o
  | none => if FrzP α κ S a then H a else none
section
variable {K : PySem.W.Frag} {B : Hp} {α : List Addr} {F H : Hp} {κ : Store} {S : Nat → Prop}
theorem frz_old {a : Addr} {o : HO} (h : F a = some o) : frzH α κ S F H a = some o := by
  unfold frzH
  rw [h]
theorem frz_new {a : Addr} (h : F a = none) (p : FrzP α κ S a) : frzH α κ S F H a = H a := by
  unfold frzH
  rw [h]
  exact if_pos p
theorem frz_no {a : Addr} (h : F a = none) (p : ¬ FrzP α κ S a) : frzH α κ S F H a = none := by
  unfold frzH
  rw [h]
  exact if_neg p
theorem frz_ext : FExt F (frzH α κ S F H) := ⟨fun a u _ r => r.elim (fun r => .inl (frz_old r)) fun ⟨ob, r⟩ => .inr ⟨ob, frz_old r⟩, fun a c d u r => frz_old r, fun a u r => frz_old r⟩
theorem cell_rep {F2 : Hp} {a : Addr} {o : D} (hf : FExt F F2) (l : live o = true) (h : CellAt K α F H a o) (e : F2 a = H a) : Rep K α F2 o (.ref a) := by
  cases o with
  | lst ds =>
    obtain ⟨vs, q, r⟩ := h
    unfold Rep
    exact ⟨a, vs, rfl, SqL.of (by rw [e]; exact q), r.mono (AExt.refl _) hf⟩
  | dic ds =>
    obtain ⟨vs, q, r⟩ := h
    unfold Rep
    exact ⟨a, vs, rfl, .inl (by rw [e]; exact q), r.mono (AExt.refl _) hf⟩
  | ins c ds =>
    obtain ⟨dx, vs, q, r⟩ := h
    unfold Rep
    exact ⟨a, dx, vs, rfl, by rw [e]; exact q, r.mono (AExt.refl _) hf⟩
  | _ => cases l
theorem CellAt.takeA {n : Nat} {a : Addr} {d : D} (c : closed n d = true) (h : CellAt K α F H a d) : CellAt K (α.take n) F H a d := by
  cases d with
  | lst ds => obtain ⟨vs, e, r⟩ := h; exact ⟨vs, e, r.takeA c⟩
  | dic kvs => obtain ⟨vs, e, r⟩ := h; exact ⟨vs, e, r.takeA c⟩
  | ins cc fs => obtain ⟨dx, vs, e, r⟩ := h; exact ⟨dx, vs, e, r.takeA c⟩
  | _ => trivial
theorem closedL_get {n : Nat} : ∀ {ds : List D} {i : Nat} {d : D}, closedL n ds = true → ds[i]? = some d → closed n d = true
  | [], _, _, _, e => by simp at e
  | d :: ds, 0, x, h, e => by
    unfold closedL at h
    simp only [Bool.and_eq_true] at h
    simp at e
    subst e
    exact h.1
  | d :: ds, i + 1, x, h, e => by
    unfold closedL at h
    simp only [Bool.and_eq_true] at h
    exact closedL_get h.2 (by simpa using e)
theorem CellAt.sub' {j : Nat} {t : D} (ht : ∀ a, α[j]? = some a → Rep K α F t (.ref a)) {a : Addr} {o : D} (l : live o = true) (h : CellAt K α F H a o) : live (I3.sub j t o) = true ∧ CellAt K α F H a (I3.sub j t o) := by
  cases o with
  | lst ds =>
    obtain ⟨vs, e, r⟩ := h
    unfold I3.sub
    exact ⟨rfl, vs, e, RepL.sub ht r⟩
  | dic ds =>
    obtain ⟨vs, e, r⟩ := h
    unfold I3.sub
    exact ⟨rfl, vs, e, RepK.sub ht r⟩
  | ins c ds =>
    obtain ⟨dx, vs, e, r⟩ := h
    unfold I3.sub
    exact ⟨rfl, dx, vs, e, RepF.sub ht r⟩
  | _ => cases l
theorem CellAt.resolve {a : Addr} : ∀ (ls : List D) (b : Nat), (∀ (i : Nat) (o : D), ls[i]? = some o → live o = true → ∀ a, α[b + i]? = some a → Rep K α F o (.ref a)) → ∀ {o : D}, live o = true → CellAt K α F H a o → live (I3.resolve b ls o) = true ∧ CellAt K α F H a (I3.resolve b ls o)
  | [], b, _, o, l, h => ⟨l, h⟩
  | x :: ls, b, hl, o, l, h => by
    have hl' : ∀ (i : Nat) (o : D), ls[i]? = some o → live o = true → ∀ a, α[b + 1 + i]? = some a → Rep K α F o (.ref a) := fun i x e l a ha => hl (i + 1) x (by simpa using e) l a (by rw [← ha]; congr 1; omega)
    have ih := CellAt.resolve ls (b + 1) hl' l h
    unfold I3.resolve
    cases lx : live x with
    | false => exact ih
    | true => exact CellAt.sub' (fun a ha => Rep.resolve ls (b + 1) hl' (hl 0 x rfl lx a ha)) ih.1 ih.2
/-- the cells from n on: those of S frozen, the others given up -/
theorem St.cut (T : St K B α F κ H) (n : Nat) (hS : ∀ i, S i → n ≤ i) (hc : closedL n (κ.take n) = true) : St K B (α.take n) (frzH α κ S F H) (κ.take n) H where
  prv := T.prv
  dis := fun a o e => by
    refine ⟨?_, fun i d e1 e2 => ?_⟩
    · have h1 := T.dis a o e
      refine frz_no h1.1 ?_
      rintro ⟨i, d, _, e1, e2, l⟩
      rw [h1.2 i d e1 e2] at l
      cases l
    · have hi : i < n := by
        have := (List.getElem?_eq_some_iff.mp e1).1
        rw [List.length_take] at this
        omega
      rw [List.getElem?_take_of_lt hi] at e1 e2
      exact (T.dis a o e).2 i d e1 e2
  sub := fun a o e => by
    cases q : F a with
    | some u => rw [frz_old q] at e; cases e; exact T.sub a _ q
    | none =>
      by_cases p : FrzP α κ S a
      · rw [frz_new q p] at e; exact e
      · rw [frz_no q p] at e; cases e
  len := by rw [List.length_take, List.length_take, T.len]
  cel := fun i a d e1 e2 => by
    have hi : i < n := by
      have := (List.getElem?_eq_some_iff.mp e1).1
      rw [List.length_take] at this
      omega
    have c := closedL_get hc e2
    rw [List.getElem?_take_of_lt hi] at e1 e2
    exact ((T.cel i a d e1 e2).takeA c).mono (AExt.refl _) frz_ext
  out := fun i a d e1 e2 l => by
    have hi : i < n := by
      have := (List.getElem?_eq_some_iff.mp e1).1
      rw [List.length_take] at this
      omega
    rw [List.getElem?_take_of_lt hi] at e1 e2
    refine frz_no (T.out i a d e1 e2 l) ?_
    rintro ⟨j, x, sj, e3, e4, l2⟩
    have := T.inj i j a d x e1 e3 e2 e4 l l2
    have := hS j sj
    omega
  inj := fun i j a d e e1 e2 e3 e4 l1 l2 => by
    have hi : i < n := by
      have := (List.getElem?_eq_some_iff.mp e1).1
      rw [List.length_take] at this
      omega
    have hj : j < n := by
      have := (List.getElem?_eq_some_iff.mp e2).1
      rw [List.length_take] at this
      omega
    rw [List.getElem?_take_of_lt hi] at e1 e3
    rw [List.getElem?_take_of_lt hj] at e2 e4
    exact T.inj i j a d e e1 e2 e3 e4 l1 l2
theorem aext_take {α0 : List Addr} (h : AExt α0 α) : AExt α0 (α.take α0.length) := fun i a e => by
  have hi : i < α0.length := (List.getElem?_eq_some_iff.mp e).1
  rw [List.getElem?_take_of_lt hi]
  exact h i a e
theorem finish_ok {m : Mode} {d d2 : D} {κ2 : Store} {v : V} {α0 : List Addr} (T : St K B α F κ H) (ha : AExt α0 α) (r : Rep K α F d v) (e : finish α0.length m d κ = .ok d2 κ2) :
    ∃ α2 F2, AExt α0 α2 ∧ FExt F F2 ∧ St K B α2 F2 κ2 H ∧ Rep K α2 F2 d2 v := by
  cases m with
  | keep =>
    cases e
    exact ⟨α, F, ha, FExt.refl _, T, r⟩
  | tree =>
    unfold finish at e
    dsimp only at e
    split at e
    · cases e
      exact ⟨α, F, ha, FExt.refl _, T, r⟩
    · split at e
      · rename_i c
        cases e
        simp only [Bool.and_eq_true] at c
        have T2 := T.cut (S := fun i => α0.length ≤ i) α0.length (fun _ h => h) c.2
        refine ⟨_, _, aext_take ha, frz_ext, T2, ?_⟩
        refine Rep.take c.1 (Rep.resolve _ _ (fun i o e1 l a e2 => ?_) (r.mono (AExt.refl _) frz_ext))
        rw [List.getElem?_drop] at e1
        have hn := T.out _ a o e2 e1 l
        exact cell_rep frz_ext l (T.cel _ a o e2 e1) (frz_new hn ⟨_, o, Nat.le_add_right _ _, e2, e1, l⟩)
      · cases e
  | cell =>
    cases d <;> (first | (cases e; done) | skip)
    rename_i j
    unfold finish at e
    dsimp only at e
    split at e
    · cases e
    · rename_i hj
      split at e
      · rename_i o eo
        split at e
        · rename_i c
          cases e
          simp only [Bool.and_eq_true] at c
          obtain ⟨⟨c1, c2⟩, c3⟩ := c
          unfold Rep at r
          obtain ⟨p, hp, rfl⟩ := r
          have hfp := T.out j p o hp eo c1
          have T2 := T.cut (S := fun i => α0.length ≤ i ∧ i ≠ j) α0.length (fun _ h => h.1) c3
          have hno : ¬ FrzP α κ (fun i => α0.length ≤ i ∧ i ≠ j) p := by
            rintro ⟨i, x, ⟨_, si⟩, e3, e4, l2⟩
            exact si (T.inj i j p x o e3 hp e4 eo l2 c1)
          have hls : ∀ (i : Nat) (x : D), ((κ.set j .non).drop α0.length)[i]? = some x → live x = true → ∀ a, α[α0.length + i]? = some a → Rep K α (frzH α κ (fun i => α0.length ≤ i ∧ i ≠ j) F H) x (.ref a) := fun i x e1 l a e2 => by
            rw [List.getElem?_drop] at e1
            have ne : α0.length + i ≠ j := fun z => by
              rw [z] at e1
              rw [List.getElem?_set_self (List.getElem?_eq_some_iff.mp eo).1] at e1
              cases e1
              cases l
            rw [List.getElem?_set_ne (Ne.symm ne)] at e1
            exact cell_rep frz_ext l (T.cel _ a x e2 e1) (frz_new (T.out _ a x e2 e1 l) ⟨_, x, ⟨Nat.le_add_right _ _, ne⟩, e2, e1, l⟩)
          have hlen : (α.take α0.length).length = α0.length := by
            rw [List.length_take]
            have := (List.getElem?_eq_some_iff.mp hp).1
            omega
          have hB : B p = none := by
            cases q : B p with
            | none => rfl
            | some u =>
              rw [(T.dis p u q).2 j o hp eo] at c1
              cases c1
          have hnl : ∀ (i : Nat) (x : D), (α.take α0.length)[i]? = some p → (κ.take α0.length)[i]? = some x → live x = false := fun i x e1 e2 => by
            cases l : live x with
            | false => rfl
            | true =>
              have hi : i < α0.length := by
                have := (List.getElem?_eq_some_iff.mp e1).1
                rw [hlen] at this
                exact this
              rw [List.getElem?_take_of_lt hi] at e1 e2
              have := T.inj i j p x o e1 hp e2 eo l c1
              omega
          have hcell : CellAt K (α.take α0.length) (frzH α κ (fun i => α0.length ≤ i ∧ i ≠ j) F H) H p (I3.resolve α0.length ((κ.set j .non).drop α0.length) o) := by
            exact (CellAt.resolve _ _ hls c1 ((T.cel j p o hp eo).mono (AExt.refl _) frz_ext)).2.takeA c2
          refine ⟨α.take α0.length ++ [p], _, (aext_take ha).trans (AExt.snoc _ _), frz_ext, T2.newCell hcell (frz_no hfp hno) hnl hB, ?_⟩
          unfold Rep
          exact ⟨p, by rw [List.getElem?_append_right (by rw [hlen]; exact Nat.le_refl _), hlen]; simp, rfl⟩
        · cases e
      · cases e
end
theorem post_fin {K : PySem.W.Frag} {B : Hp} {W : WX} {σ : L2.St} {α0 α : List Addr} {F0 F H : Hp} {κ : Store} {Q : VK} {m : Mode} {d : D} {v : V} (hp : Post K B W σ α0 F0 Q (finish α0.length m d κ)) (T : I3.St K B α F κ H) (ha : AExt α0 α) (hf : FExt F0 F) (r : Rep K α F d v) : Q v H := by
  cases e : finish α0.length m d κ with
  | ok d2 κ2 =>
    rw [e] at hp
    obtain ⟨α2, F2, h1, h2, h3, h4⟩ := finish_ok T ha r e
    exact hp v H α2 F2 h1 (hf.trans h2) h3 h4
  | exc c fs κ2 =>
    exfalso
    cases m with
    | keep => cases e
    | tree =>
      unfold finish at e
      dsimp only at e
      split at e
      · cases e
      · split at e <;> cases e
    | cell =>
      cases d <;> (first | (cases e; done) | skip)
      unfold finish at e
      dsimp only at e
      split at e
      · cases e
      · split at e
        · split at e <;> cases e
        · cases e
  | bad =>
    rw [e] at hp
    exact False.elim hp
end I3

set_option Elab.async false
set_option linter.all false
set_option autoImplicit false
set_option maxRecDepth 100000
set_option maxHeartbeats 4000000
/-! I3i: calls, displays, comprehensions: their readings. -/
namespace I3
open PySem PySem.Spec PyProof.Rows L2
section
variable {X : Cx} {Z : Sta} {k : Nat} {W : WX} {G : Gam}
theorem post_we {K : PySem.W.Frag} {B : Hp} {σ : L2.St} {α : List Addr} {F : Hp} {Q : VK} {r : Res D} (h : Post K B W σ α F Q r) : Post K B (fun c d _ H' => WE W σ c d H') [] α F Q r := by
  cases r with
  | ok d κ => exact h
  | exc c fs κ => exact h
  | bad => exact h
theorem ArgsOk.at_ {K : PySem.W.Frag} {fd : FuncData} {ps : List Str} {m : List D → Store → Res D} (h : ArgsOk K fd ps m) (ds : List D) (κ : Store) : m ds κ = .bad ∨ ∃ (dd : List D) (dvs : List V) (us : List Value), (ds ++ dd).length = ps.length ∧ (∀ α F, RepL K α F dd dvs) ∧ Vals dvs us ∧ Binds K fd ps us ∧ m ds κ = m (ds ++ dd) κ := by
  rcases h ds.length with h | ⟨dd, dvs, us, h1, h2, h3, h4, h5⟩
  · exact .inl (h ds κ rfl)
  · exact .inr ⟨dd, dvs, us, by rw [List.length_append]; exact h1, h2, h3, h4, h5 ds κ rfl⟩
/-- a def is called, what lacks is filled up -/
theorem run_args {f : Addr} {fd : FuncData} {ps : List Str} {m : List D → Store → Res D} {pins : List (Addr × Obj)} {σ : L2.St} {H : Hp} {s : Shared} {Q : VK} {us : List Value} {vs : List V} {B : Hp} {α : List Addr} {F : Hp} {κ : Store} {ds : List D} (c : Ctx X Z k W G) (hz : Z.hot = false)
    (Fk : FnOk X.prog X.w X.K X.mg X.base (L2.CX X.prog X.w) k f fd ps (spC X.K ps.length m)) (ar : ArgsOk X.K fd ps m) (S : I3.St X.K B α F κ H) (rl : RepL X.K α F ds vs) (rv : Vals vs us) (I : L2.Inv X pins σ H s) (q : Post X.K B W σ α F Q (m ds κ)) :
    wpAny (model X.prog X.w) X.A (call (.ref f) us) (EP X pins σ Q) X.xe s := by
  rcases ar.at_ ds κ with e | ⟨dd, dvs, du, hl, hr, hv, hb, e⟩
  · rw [e] at q
    exact False.elim q
  · rw [e] at q
    exact run_fnSD (E := WE W) (vs := vs) (us := us) (dvs := dvs) (ds := du) Fk (c.room hz) hb hv (passAt c.tk σ) I rv ⟨by rw [List.length_append, ← rl.length, ← (hr α F).length, ← List.length_append]; exact hl, B, α, F, κ, ds ++ dd, S, rl.append (hr α F), post_we q⟩
theorem pe_fn {f : Str} {es : List Expr} {p pos : Pos} {ma : Env' → Store → Res (List D)} (c : Ctx X Z k W G) (hz : Z.hot = false) (hf : Z.fs.contains f = true) (hg : glB Z.sc f = true) (hn : nameOk f = true) (ha : PA X es (tA X.K W ma)) (hs : es.all noStar = true) (h0 : es = [] → ∀ ρ κ, ma ρ κ = .ok [] κ) :
    PE X (.Call (.Name f p) es [] pos) (tE X.K W (fun ρ κ => (ma ρ κ).bind fun ds κ => G.call f ds κ)) := by
  obtain ⟨a, hm, ⟨fd, ps, hk, F, ar⟩⟩ := c.call f (List.contains_iff_mem.mp hf)
  refine ⟨fun pins s σ H Q I ⟨B, α, F0, κ, ρ, S, E, q⟩ => ?_⟩
  refine wpAny_Call_Name_kw (ld_glob I (gl_of c.hsc hg) hm ?_ (nameOk_of hn).1)
  cases es with
  | nil =>
    dsimp only at q
    rw [h0 rfl] at q
    exact PySem.W.callWith_K0 I.kIn hk (run_args (us := []) (vs := []) c hz F ar S RepL.nil .nil I q)
  | cons e es =>
    have hse : noStar e = true ∧ es.all noStar = true := by simpa using hs
    have z : ∀ (l : List Expr), l.all noStar = true → (backTo pos (starEach l X.env)).any (·.1) = false := by
      intro l
      induction l with
      | nil => exact fun _ => rfl
      | cons e l ih =>
        intro h
        have h2 : noStar e = true ∧ l.all noStar = true := by simpa using h
        rw [noStar_each h2.1]
        show (false || (backTo pos (starEach l X.env)).any (·.1)) = false
        rw [ih h2.2]
        rfl
    exact PySem.W.callWith_K (h₀ := X.base) I.ok.mod.kin hk (thn (ha.run pos pins _ σ H (fun vs H2 => ∃ ds κ2 α2 F2, I3.St X.K B α2 F2 κ2 H2 ∧ RepL X.K α2 F2 ds vs ∧ Post X.K B W σ α2 F2 Q (G.call f ds κ2)) I
      (tA_seqG S E (PQ := fun α F r => Post X.K B W σ α F Q r) q Post.mono (fun _ _ _ h => h) (fun h => h) fun ds κ2 vs H2 α2 F2 _ a2 f2 S2 E2 r2 q2 => ⟨ds, κ2, α2, F2, S2, r2, q2⟩)) fun us s2 ⟨vs, H2, I2, rv, ds, κ2, α2, F2, S2, rl, q2⟩ => ⟨I2.kIn, run_args c hz F ar S2 rl rv I2 q2⟩) (noStar_each hse.1) (z es hse.2)

theorem noStar_all {env : Env} : ∀ (l : List Expr), l.all noStar = true → (starEach l env).all (fun x => !x.1) = true ∧ (starEach l env).any (·.1) = false
  | [], _ => ⟨rfl, rfl⟩
  | e :: l, h => by
    have h2 : noStar e = true ∧ l.all noStar = true := by simpa using h
    rw [noStar_each h2.1]
    obtain ⟨h3, h4⟩ := noStar_all (env := env) l h2.2
    exact ⟨by rw [List.all_cons, h3]; rfl, by rw [List.any_cons, h4]; rfl⟩
theorem back_all {env : Env} {pos : Pos} (l : List Expr) (h : l.all noStar = true) : (backTo pos (starEach l env)).all (fun x => !x.1) = true ∧ (backTo pos (starEach l env)).any (·.1) = false := by
  have z : ∀ (m : List (Bool × Sem Value)), m.all (fun x => !x.1) = true → (backTo pos m).all (fun x => !x.1) = true ∧ (backTo pos m).any (·.1) = false := by
    intro m
    induction m with
    | nil => exact fun _ => ⟨rfl, rfl⟩
    | cons x m ih =>
      intro h
      rw [List.all_cons, Bool.and_eq_true] at h
      obtain ⟨i1, i2⟩ := ih h.2
      have hx : x.1 = false := by
        have := h.1
        cases q : x.1 with
        | false => rfl
        | true => rw [q] at this; cases this
      refine ⟨?_, ?_⟩
      · show (!x.1 && (backTo pos m).all (fun x => !x.1)) = true
        rw [hx, i1]
        rfl
      · show (x.1 || (backTo pos m).any (·.1)) = false
        rw [hx, i2]
        rfl
  exact z _ (noStar_all l h).1
theorem pe_smeth {C m : Str} {es : List Expr} {xp ap pos : Pos} {ma : Env' → Store → Res (List D)} (c : Ctx X Z k W G) (hz : Z.hot = false) (hf : Z.ss.contains (C, m) = true) (hg : glB Z.sc C = true) (hn : nameOk C = true) (hl : (ap.endLine == pos.line) = true) (hlen : es.length < 30)
    (ha : PA X es (tA X.K W ma)) (hs : es.all noStar = true) (h0 : es = [] → ∀ ρ κ, ma ρ κ = .ok [] κ) :
    PE X (.Call (.Attribute (.Name C xp) m ap) es [] pos) (tE X.K W (fun ρ κ => (ma ρ κ).bind fun ds κ => G.call (C ++ "." ++ m) ds κ)) := by
  obtain ⟨Ca, p, g, hm, hr, ⟨hst, rest, hrc⟩, ⟨fd, ps, hk, F, ar⟩⟩ := c.scall (C, m) (List.contains_iff_mem.mp hf)
  refine ⟨fun pins s σ H Q I ⟨B, α, F0, κ, ρ, S, E, q⟩ => ?_⟩
  have hform : methodCallForm (es.length + ([] : List Keyword).length) (backTo pos (starEach es X.env)) (backToKw pos (keywordEach [] X.env)) = true := by
    unfold methodCallForm
    rw [(back_all es hs).1]
    show (true && true && decide (es.length + 0 + 0 < 30)) = true
    rw [decide_eq_true (by omega)]
    rfl
  have hpos : methodCallPos true (.Name C xp) X.env ap pos = pure pos := by unfold methodCallPos; simp [hl]
  rw [arm_eval_Call]
  show wpAny _ _ (do let ov ← eval (.Name C xp) X.env; standAt ap.atName; methodCall (.Name C xp) m ap pos X.env ov (es.length + ([] : List Keyword).length) (backTo pos (starEach es X.env)) (backToKw pos (keywordEach [] X.env))) _ _ _
  refine wpAny_bind (ld_glob I (gl_of c.hsc hg) hm ?_ (nameOk_of hn).1)
  refine wpAny_bind (wpAny_standAt ?_)
  unfold methodCall
  rw [hform]
  refine wpAny_bind (wpAny_holding ?_)
  show wpAny _ _ (getMethod (.ref Ca) m _) _ _ _
  refine PySem.W.method_cls I.kIn hr.ga ?_
  refine PySem.W.cls_bind I.kIn hr.rd hst ?_
  refine wpAny_call (PySem.W.sm_get (s := { s with toks := s.toks + 1 }) (I.tok _).kIn hrc (PySem.W.handed_on rfl ?_))
  refine wpAny_bind (wpAny_of_eq hpos ?_)
  have I1 := I.tok (s.toks + 1)
  cases es with
  | nil =>
    dsimp only at q
    rw [h0 rfl] at q
    exact PySem.W.callWith_K0 I1.kIn hk (run_args (us := []) (vs := []) c hz F ar S RepL.nil .nil I1 q)
  | cons e es =>
    have hse : noStar e = true ∧ es.all noStar = true := by simpa using hs
    exact PySem.W.callWith_K (h₀ := X.base) I1.ok.mod.kin hk (thn (ha.run pos pins _ σ H (fun vs H2 => ∃ ds κ2 α2 F2, I3.St X.K B α2 F2 κ2 H2 ∧ RepL X.K α2 F2 ds vs ∧ Post X.K B W σ α2 F2 Q (G.call (C ++ "." ++ m) ds κ2)) I1
      (tA_seqG S E (PQ := fun α F r => Post X.K B W σ α F Q r) q Post.mono (fun _ _ _ h => h) (fun h => h) fun ds κ2 vs H2 α2 F2 _ a2 f2 S2 E2 r2 q2 => ⟨ds, κ2, α2, F2, S2, r2, q2⟩)) fun us s2 ⟨vs, H2, I2, rv, ds, κ2, α2, F2, S2, rl, q2⟩ => ⟨I2.kIn, run_args c hz F ar S2 rl rv I2 q2⟩) (noStar_each hse.1) (back_all es hse.2).2
/-! ### instances -/
theorem St.fresh_b {K : PySem.W.Frag} {B : Hp} {α : List Addr} {F H : Hp} {κ : Store} (S : St K B α F κ H) {p : Addr} (h : H p = none) : B p = none := by
  cases e : B p with
  | none => rfl
  | some o =>
    rw [S.prv p o e] at h
    cases h
theorem ins_rep {K : PySem.W.Frag} {B : Hp} {α : List Addr} {F H : Hp} {κ : Store} {d : D} {x : V} {c : Str} {fs : List (Str × D)} (S : I3.St K B α F κ H) (r : Rep K α F d x) (h : insOf κ d = some (c, fs)) : ∃ a dx us, x = .ref a ∧ H a = some (.ins (He.ga K c) dx us) ∧ RepF K α F fs us := by
  unfold insOf at h
  cases d with
  | cell i =>
    unfold Rep at r
    obtain ⟨a, ha, rfl⟩ := r
    have e0 : I3.cellOf κ (.cell i) = liveOr κ[i]? := rfl
    rw [e0] at h
    cases q : κ[i]? with
    | none => rw [q] at h; cases h
    | some o =>
      rw [q] at h
      cases o <;> (first | (cases h; done) | skip)
      cases h
      obtain ⟨dx, us, e1, e2⟩ := S.cel i a _ ha q
      exact ⟨a, dx, us, rfl, e1, e2⟩
  | ins c' fs' =>
    cases h
    unfold Rep at r
    obtain ⟨a, dx, us, rfl, e1, e2⟩ := r
    exact ⟨a, dx, us, rfl, S.sub _ _ e1, e2⟩
  | _ => cases h
theorem base_of {o : Expr} {f : Str} (h : plainBase o = true) (env : Env) : attributeBase o f env (eval o env) = eval o env := by
  cases o <;> first | rfl | cases h
theorem post_e0 {K : PySem.W.Frag} {B : Hp} {σ : L2.St} {α : List Addr} {F : Hp} {Q : VK} {W : WX} {r : Res D} (h : Post K B W σ α F Q r.nox) : Post K B (fun c d _ H' => E0 c d H') [] α F Q r := by
  cases r with
  | ok d κ => exact h
  | exc c fs κ => exact False.elim h
  | bad => exact h
theorem pe_attr {o : Expr} {f : Str} {pos : Pos} {ma : Env' → Store → Res D} (c : Ctx X Z k W G) (hz : Z.hot = false) (hb : plainBase o = true) (ho : PE X o (tE X.K W ma)) : PE X (.Attribute o f pos) (tE X.K W (fun ρ κ => (ma ρ κ).bind fun x κ => opAttr G x f κ)) := by
  refine ⟨fun pins s σ H Q I ⟨B, α, F, κ, ρ, S, E, q⟩ => ?_⟩
  refine attr_of (base_of hb _) (thn (ho.run pins s σ H (fun v H1 => ∃ d κ1 α1 F1, I3.St X.K B α1 F1 κ1 H1 ∧ Rep X.K α1 F1 d v ∧ Post X.K B W σ α1 F1 Q (opAttr G d f κ1)) I
    (tE_seq S E q fun d κ1 v H1 α1 F1 _ a1 f1 S1 E1 r1 q1 => ⟨d, κ1, α1, F1, S1, r1, q1⟩)) fun u s1 ⟨x, H1, I1, rx, d, κ1, α1, F1, S1, r1, q1⟩ => ?_)
  unfold opAttr at q1
  cases hi : insOf κ1 d with
  | none => rw [hi] at q1; exact False.elim q1
  | some cf =>
    obtain ⟨cn, fs⟩ := cf
    rw [hi] at q1
    dsimp only at q1
    obtain ⟨a, dx, us, rfl, ea, rf⟩ := ins_rep S1 r1 hi
    obtain rfl : u = Value.ref a := rx
    obtain ⟨l1, l2⟩ := RepF.lookup (f := f) rf
    cases ha : G.att cn f with
    | no => rw [ha] at q1; exact False.elim q1
    | fld =>
      rw [ha] at q1
      dsimp only at q1
      obtain ⟨c1, c2⟩ := c.fld cn f ha
      cases hl : fs.lookup f with
      | none => rw [hl] at q1; exact False.elim q1
      | some x =>
        rw [hl] at q1
        obtain ⟨v, e1, e2⟩ := l1 x hl
        exact getattr_ok I1 ea c1 c2 e1 fun u' s2 I2 ru => ⟨v, H1, I2, ru, q1 v H1 α1 F1 (AExt.refl _) (FExt.refl _) S1 e2⟩
    | con x =>
      rw [ha] at q1
      dsimp only at q1
      obtain ⟨c1, w, v, c2, c3⟩ := c.con cn f x ha
      cases hl : fs.lookup f with
      | some _ => rw [hl] at q1; exact False.elim q1
      | none =>
        rw [hl] at q1
        exact getcon_ok I1 ea c1 c2 (l2 hl) fun s2 I2 => ⟨v, H1, I2, c2.rel, q1 v H1 α1 F1 (AExt.refl _) (FExt.refl _) S1 (c3 α1 F1)⟩
    | prop =>
      rw [ha] at q1
      dsimp only at q1
      obtain ⟨c1, p, g, c2, h00 | ⟨j, hj, ⟨fd, ps, hk, Fk, ar⟩⟩⟩ := c.low cn f ha
      · rw [c.low0 h00] at q1
        exact False.elim q1
      have hr : Room (j + 1) X.A := hj ▸ c.room hz
      rcases ar.at_ [d] κ1 with e | ⟨dd, dvs, du, hl, hrr, hv, hbd, e⟩
      · rw [e] at q1
        exact False.elim q1
      · rw [e] at q1
        refine getprop_ok (dvs := dvs) (ds := du) (E := E0) I1 ea c1 c2 Fk hr hbd hv passL ?_
        exact ⟨by rw [← hl, List.length_append, (hrr α1 F1).length]; show dvs.length + 1 = 1 + dvs.length; omega, B, α1, F1, κ1, [d] ++ dd, S1, RepL.cons r1 (hrr α1 F1), post_e0 q1⟩
theorem pe_mI {o : Expr} {m : Str} {es : List Expr} {ap pos : Pos} {mo : Env' → Store → Res D} {ma : Env' → Store → Res (List D)} (c : Ctx X Z k W G) (hz : Z.hot = false) (hb : plainBase o = true) (hl : (ap.endLine == pos.line) = true) (hlen : es.length < 30) (ho : PE X o (tE X.K W mo))
    (ha : PA X es (tA X.K W ma)) (hs : es.all noStar = true) (h0 : es = [] → ∀ ρ κ, ma ρ κ = .ok [] κ) :
    PE X (.Call (.Attribute o m ap) es [] pos) (tE X.K W (fun ρ κ => (mo ρ κ).bind fun x κ => (opMeth G x m κ).bind fun g κ => (ma ρ κ).bind fun ds κ => G.call g (x :: ds) κ)) := by
  refine ⟨fun pins s σ H Q I ⟨B, α, F, κ, ρ, S, E, q⟩ => ?_⟩
  have hform : methodCallForm (es.length + ([] : List Keyword).length) (backTo pos (starEach es X.env)) (backToKw pos (keywordEach [] X.env)) = true := by
    unfold methodCallForm
    rw [(back_all es hs).1]
    show (true && true && decide (es.length + 0 + 0 < 30)) = true
    rw [decide_eq_true (by omega)]
    rfl
  have hpos : methodCallPos true o X.env ap pos = pure pos := by unfold methodCallPos; simp [hl]
  rw [arm_eval_Call, base_of hb]
  refine wpAny_bind (thn (ho.run pins s σ H (fun v H1 => ∃ d κ1 α1 F1, I3.St X.K B α1 F1 κ1 H1 ∧ RepE X.K α1 F1 ρ σ ∧ Rep X.K α1 F1 d v ∧ Post X.K B W σ α1 F1 Q ((opMeth G d m κ1).bind fun g κ => (ma ρ κ).bind fun ds κ => G.call g (d :: ds) κ)) I
    (tE_seq S E q fun d κ1 v H1 α1 F1 _ a1 f1 S1 E1 r1 q1 => ⟨d, κ1, α1, F1, S1, E1, r1, q1⟩)) fun u s1 ⟨x, H1, I1, rx, d, κ1, α1, F1, S1, E1, r1, q1⟩ => ?_)
  unfold opMeth at q1
  cases hi : insOf κ1 d with
  | none => rw [hi] at q1; exact False.elim q1
  | some cf =>
    obtain ⟨cn, fs⟩ := cf
    rw [hi] at q1
    dsimp only at q1
    obtain ⟨a, dx, us, rfl, ea, rf⟩ := ins_rep S1 r1 hi
    obtain rfl : u = Value.ref a := rx
    by_cases hm : G.isM cn m = true ∧ fs.lookup m = none
    · rw [if_pos hm, Res.bind_ok] at q1
      obtain ⟨c1, g, c2, ⟨fd, ps, hk, Fk, ar⟩, _, _⟩ := c.meth cn m hm.1
      refine wpAny_bind (wpAny_standAt ?_)
      show wpAny _ _ (methodCall o m ap pos X.env (.ref a) (es.length + ([] : List Keyword).length) (backTo pos (starEach es X.env)) (backToKw pos (keywordEach [] X.env))) _ _ _
      unfold methodCall
      rw [hform]
      refine wpAny_bind (wpAny_holding (getmeth_ok I1 ea c1 c2 ((RepF.lookup rf).2 hm.2) ?_))
      refine wpAny_bind (wpAny_of_eq hpos ?_)
      have fin : ∀ {us : List Value} {vs : List V} {s2 : Shared} {H2 : Hp} {α2 : List Addr} {F2 : Hp} {ds : List D} {κ2 : Store}, AExt α1 α2 → FExt F1 F2 → I3.St X.K B α2 F2 κ2 H2 → RepL X.K α2 F2 ds vs → Vals vs us → L2.Inv X pins σ H2 s2 → Post X.K B W σ α2 F2 Q (G.call (cn ++ "." ++ m) (d :: ds) κ2) →
          wpAny (model X.prog X.w) X.A (call (.ref g) ([Value.ref a] ++ us)) (EP X pins σ Q) X.xe s2 := fun {us vs s2 H2 α2 F2 ds κ2} ha2 hf2 S2 rl rv I2 q2 => by
        exact run_args (us := Value.ref a :: us) (vs := .ref a :: vs) c hz Fk ar S2 (RepL.cons (r1.mono ha2 hf2) rl) (.cons rfl rv) I2 q2
      cases es with
      | nil =>
        rw [h0 rfl] at q1
        exact PySem.W.callWith_K0 I1.kIn hk (fin (us := []) (vs := []) (AExt.refl _) (FExt.refl _) S1 RepL.nil .nil I1 q1)
      | cons e es =>
        have hse : noStar e = true ∧ es.all noStar = true := by simpa using hs
        refine PySem.W.callWith_K (h₀ := X.base) I1.ok.mod.kin hk (thn (ha.run pos pins _ σ H1 (fun vs H2 => ∃ ds κ2 α2 F2, AExt α1 α2 ∧ FExt F1 F2 ∧ I3.St X.K B α2 F2 κ2 H2 ∧ RepL X.K α2 F2 ds vs ∧ Post X.K B W σ α2 F2 Q (G.call (cn ++ "." ++ m) (d :: ds) κ2)) I1
          (tA_seqG S1 E1 (PQ := fun α F r => Post X.K B W σ α F Q r) q1 Post.mono (fun _ _ _ h => h) (fun h => h) fun ds κ2 vs H2 α2 F2 _ a2 f2 S2 E2 r2 q2 => ⟨ds, κ2, α2, F2, a2, f2, S2, r2, q2⟩)) fun us s2 ⟨vs, H2, I2, rv, ds, κ2, α2, F2, a2, f2, S2, rl, q2⟩ => ⟨I2.kIn, fin a2 f2 S2 rl rv I2 q2⟩) (noStar_each hse.1) (back_all es hse.2).2
    · rw [if_neg hm] at q1
      exact False.elim q1
/-- C(..): the new object, then its __init__ -/
theorem run_mk {pins : List (Addr × Obj)} {σ : L2.St} {H : Hp} {s : Shared} {Q : VK} {us : List Value} {vs : List V} {C f : Addr} {j : Nat} {fd : FuncData} {ps : List Str} {sp : Sp} {E : XK} {CX : CXT} (M : Mk X.K C f) (Fk : FnOk X.prog X.w X.K X.mg X.base CX j f fd ps sp) {dvs : List V} {dus : List Value} (hr : Room (j + 1) X.A) (hb : Binds X.K fd ps dus) (hdv : Vals dvs dus)
    (hx : PassesAt CX X σ E) (I : L2.Inv X pins σ H s) (r : Vals vs us) (h : ∀ x dx, H x = none → H dx = none → dx ≠ x → sp (.ref x :: vs ++ dvs) (upd (upd H dx (.own x)) x (.ins C dx [])) (fun v H2 => v = .non ∧ Q (.ref x) H2) E) :
    wpAny (model X.prog X.w) X.A (call (.ref C) us) (EP X pins σ Q) X.xe s := by
  generalize hN : s.heap.objs.size = N
  have n0 : H N = none := hN ▸ I.hok.fresh (Nat.le_refl _)
  have n1 : H (N + 1) = none := hN ▸ I.hok.fresh (Nat.le_succ _)
  have want := h (N + 1) N n1 n0 (Nat.ne_of_lt (Nat.lt_succ_self _))
  have J := Inv.made (C := C) I
  rw [hN] at J
  have rr : Vals (V.ref (N + 1) :: vs ++ dvs) (Value.ref (N + 1) :: us ++ dus) := .cons rfl (r.append hdv)
  have hl : (Value.ref (N + 1) :: us ++ dus).length = ps.length := by rw [← rr.length]; exact Fk.len _ _ _ _ want
  have bd := hb _ (Value.ref (N + 1) :: us) J.kIn hl
  have run := Fk.run _ X.stack _ _ ⟨Value.ref (N + 1) :: us, []⟩ _ _ _ E (hr.make C us []) (J.env0.make C us []) bd rr want
  refine wpAny_call (make_map (f := f) I.kIn M.makes M.init (beq_iff_eq.mp M.fn) ?_)
  rw [hN]
  refine codeAny_mono run fun rs s' hq => ?_
  match rs, hq with
  | .error e, hq => exact hx pins _ _ e s' J hq
  | .ok (.ret u), hq =>
    obtain ⟨v, H', I3', rv, ev, q3⟩ := J.after hq
    subst ev
    exact ⟨rv, ⟨V.ref (N + 1), H', I3', rfl, q3⟩⟩
  | .ok .next, hq => exact False.elim hq
  | .ok .brk, hq => exact False.elim hq
  | .ok .cont, hq => exact False.elim hq
theorem pe_mk {x : Str} {es : List Expr} {p pos : Pos} {md : Mode} {ma : Env' → Store → Res (List D)} (c : Ctx X Z k W G) (hz : Z.hot = false) (hg : glB Z.sc x = true) (hn : nameOk x = true) (ha : PA X es (tA X.K W ma)) (hs : es.all noStar = true) (h0 : es = [] → ∀ ρ κ, ma ρ κ = .ok [] κ) :
    PE X (.Call (.Name x p) es [] pos) (tE X.K W (fun ρ κ => if G.isC x = true then (ma ρ κ).bind fun ds κ => (G.low (x ++ ".__init__") (.cell κ.length :: ds) (κ ++ [.ins x []])).bind fun r κ' => endMake κ.length md r κ' else .bad)) := by
  refine ⟨fun pins s σ H Q I ⟨B, α, F, κ, ρ, S, E, q⟩ => ?_⟩
  dsimp only at q
  by_cases hC : G.isC x = true
  case neg =>
    rw [if_neg hC] at q
    exact False.elim q
  rw [if_pos hC] at q
  obtain ⟨hm, g, M, hk⟩ := c.make x hC
  have fin : ∀ {us : List Value} {vs : List V} {s2 : Shared} {H2 : Hp} {α2 : List Addr} {F2 : Hp} {ds : List D} {κ2 : Store}, I3.St X.K B α2 F2 κ2 H2 → RepL X.K α2 F2 ds vs → Vals vs us → L2.Inv X pins σ H2 s2 → Post X.K B W σ α2 F2 Q ((G.low (x ++ ".__init__") (.cell κ2.length :: ds) (κ2 ++ [.ins x []])).bind fun r κ' => endMake κ2.length md r κ') →
      wpAny (model X.prog X.w) X.A (call (.ref (He.ga X.K x)) us) (EP X pins σ Q) X.xe s2 := fun {us vs s2 H2 α2 F2 ds κ2} S2 rl rv I2 q2 => by
    rcases hk with h00 | ⟨j, hj, ⟨fd, ps, hkp, Fk, ar⟩⟩
    · rw [c.low0 h00] at q2
      exact False.elim q2
    · rcases ar.at_ (D.cell κ2.length :: ds) (κ2 ++ [.ins x []]) with e | ⟨dd, dvs, du, hl, hrr, hv, hbd, e⟩
      · rw [e] at q2
        exact False.elim q2
      · refine run_mk M Fk (hj ▸ c.room hz) hbd hv (passAt c.tk σ) I2 rv fun a dx hx hdx ne => ?_
        refine ⟨by rw [← hl, List.length_append, List.length_append, List.length_cons, List.length_cons, rl.length, (hrr α2 F2).length], B, α2 ++ [a], F2, κ2 ++ [.ins x []], .cell κ2.length :: ds ++ dd, ?_, RepL.cons ?_ ((rl.mono (AExt.snoc _ _) (FExt.refl _)).append (hrr _ _)), ?_⟩
        · have hx2 : upd H2 dx (HO.own a) a = none := by rw [upd_ne (Ne.symm ne)]; exact hx
          exact ((S2.alloc (o := .own a) hdx).alloc (o := .ins (He.ga X.K x) dx []) hx2).newCell ⟨dx, [], upd_same, by unfold RepF; rfl⟩ (S2.fresh hx) (S2.noCell hx) (S2.fresh_b hx)
        · unfold Rep
          exact ⟨a, by rw [← S2.len, List.getElem?_append_right (Nat.le_refl _)]; simp, rfl⟩
        · rw [e] at q2
          cases hl2 : G.low (x ++ ".__init__") (.cell κ2.length :: ds ++ dd) (κ2 ++ [.ins x []]) with
          | bad => rw [hl2] at q2; exact q2
          | exc cc fs κ3 =>
            rw [hl2] at q2
            exact fun dx' us' H' α' F' a' f' => q2 dx' us' H' α' F' ((AExt.snoc _ _).trans a') f'
          | ok r κ3 =>
            rw [hl2, Res.bind_ok] at q2
            intro v H' α' F' a' f' S' r'
            cases r <;> (first | (exact False.elim q2) | skip)
            have q3 : Post X.K B W σ α2 F2 Q (finish κ2.length md (.cell κ2.length) κ3) := q2
            rw [← S2.len] at q3
            refine ⟨r', post_fin q3 S' ((AExt.snoc _ _).trans a') f' ?_⟩
            unfold Rep
            exact ⟨a, a' _ _ (by rw [List.getElem?_append_right (Nat.le_refl _)]; simp), rfl⟩
  refine wpAny_Call_Name_kw (ld_glob I (gl_of c.hsc hg) hm ?_ (nameOk_of hn).1)
  cases es with
  | nil =>
    rw [h0 rfl] at q
    exact PySem.W.callWith_K0 I.kIn M.kp (fin (us := []) (vs := []) S RepL.nil .nil I q)
  | cons e es =>
    have hse : noStar e = true ∧ es.all noStar = true := by simpa using hs
    refine PySem.W.callWith_K (h₀ := X.base) I.ok.mod.kin M.kp (thn (ha.run pos pins _ σ H (fun vs H2 => ∃ ds κ2 α2 F2, I3.St X.K B α2 F2 κ2 H2 ∧ RepL X.K α2 F2 ds vs ∧ Post X.K B W σ α2 F2 Q ((G.low (x ++ ".__init__") (.cell κ2.length :: ds) (κ2 ++ [.ins x []])).bind fun r κ' => endMake κ2.length md r κ')) I
      (tA_seqG S E (PQ := fun α F r => Post X.K B W σ α F Q r) q Post.mono (fun _ _ _ h => h) (fun h => h) fun ds κ2 vs H2 α2 F2 _ a2 f2 S2 E2 r2 q2 => ⟨ds, κ2, α2, F2, S2, r2, q2⟩)) fun us s2 ⟨vs, H2, I2, rv, ds, κ2, α2, F2, S2, rl, q2⟩ => ⟨I2.kIn, fin S2 rl rv I2 q2⟩) (noStar_each hse.1) (back_all es hse.2).2
/-! ### displays -/
theorem tE_lst {σ : L2.St} {H : Hp} {Q : VK} {K : PySem.W.Frag} {ma : Env' → Store → Res (List D)} :
    tE K W (fun ρ κ => (ma ρ κ).bind fun ds κ => if ds.length ≤ 16777216 then .ok (.lst ds) κ else .bad) σ H Q → tLst (tA K W ma) σ H Q := by
  rintro ⟨B, α, F, κ, ρ, S, E, q⟩
  refine tA_seqG S E (PQ := fun α F r => Post K B W σ α F Q r) q Post.mono (fun _ _ _ h => h) (fun h => h) fun ds κ1 vs H1 α1 F1 _ a1 f1 S1 E1 r1 q1 => ?_
  have hz : sizeLine = 16777216 := sizeLine_eq
  by_cases e : ds.length ≤ 16777216
  · rw [if_pos e] at q1
    refine ⟨by rw [hz, ← r1.length]; exact e, fun p hp => ?_⟩
    refine q1 _ _ α1 (upd F1 p (.lst vs)) (AExt.refl _) (FExt.new (S1.fresh hp)) (S1.frozen hp) ?_
    unfold Rep
    exact ⟨p, vs, rfl, SqL.of upd_same, r1.mono (AExt.refl _) (FExt.new (S1.fresh hp))⟩
  · rw [if_neg e] at q1
    exact False.elim q1
theorem tE_tup {σ : L2.St} {H : Hp} {Q : VK} {K : PySem.W.Frag} {ma : Env' → Store → Res (List D)} :
    tE K W (fun ρ κ => (ma ρ κ).bind fun ds κ => if ds.length ≤ 16777216 then .ok (.tup ds) κ else .bad) σ H Q → tTup (tA K W ma) σ H Q := by
  rintro ⟨B, α, F, κ, ρ, S, E, q⟩
  refine tA_seqG S E (PQ := fun α F r => Post K B W σ α F Q r) q Post.mono (fun _ _ _ h => h) (fun h => h) fun ds κ1 vs H1 α1 F1 _ a1 f1 S1 E1 r1 q1 => ?_
  have hz : sizeLine = 16777216 := sizeLine_eq
  by_cases e : ds.length ≤ 16777216
  · rw [if_pos e] at q1
    refine ⟨by rw [hz, ← r1.length]; exact e, fun p hp => ?_⟩
    refine q1 _ _ α1 (upd F1 p (.tup vs)) (AExt.refl _) (FExt.new (S1.fresh hp)) (S1.frozen hp) ?_
    unfold Rep
    exact ⟨p, vs, rfl, SqT.of upd_same, r1.mono (AExt.refl _) (FExt.new (S1.fresh hp))⟩
  · rw [if_neg e] at q1
    exact False.elim q1
theorem tE_lstC {σ : L2.St} {H : Hp} {Q : VK} {K : PySem.W.Frag} {ma : Env' → Store → Res (List D)} :
    tE K W (fun ρ κ => (ma ρ κ).bind fun ds κ => if ds.length ≤ 16777216 then .ok (.cell κ.length) (κ ++ [.lst ds]) else .bad) σ H Q → tLst (tA K W ma) σ H Q := by
  rintro ⟨B, α, F, κ, ρ, S, E, q⟩
  refine tA_seqG S E (PQ := fun α F r => Post K B W σ α F Q r) q Post.mono (fun _ _ _ h => h) (fun h => h) fun ds κ1 vs H1 α1 F1 _ a1 f1 S1 E1 r1 q1 => ?_
  have hz : sizeLine = 16777216 := sizeLine_eq
  by_cases e : ds.length ≤ 16777216
  · rw [if_pos e] at q1
    refine ⟨by rw [hz, ← r1.length]; exact e, fun p hp => ?_⟩
    have S2 := (S1.alloc (o := .lst vs) hp).newCell (p := p) (d := .lst ds) ⟨vs, upd_same, r1⟩ (S1.fresh hp) (S1.noCell hp) (S1.fresh_b hp)
    refine q1 _ _ (α1 ++ [p]) F1 (AExt.snoc _ _) (FExt.refl _) S2 ?_
    unfold Rep
    exact ⟨p, by rw [← S1.len, List.getElem?_append_right (Nat.le_refl _)]; simp, rfl⟩
  · rw [if_neg e] at q1
    exact False.elim q1

/-! ### targets -/
mutual
def gOf (K : PySem.W.Frag) : Tg → TG
  | .nm i => gName i
  | .tp ts => gTup K ts.length (gsOf K ts)
def gsOf (K : PySem.W.Frag) : List Tg → TGs
  | [] => gNil
  | t :: ts => gCons (gOf K t) (gsOf K ts)
end
/-- no star among the targets -/
theorem tg_each {Z : Sta} {t : Tg} {e : Expr} {es : List Expr} {env : Env} (h : ckTg Z t e = true) : assignEach (e :: es) env = (false, assign e env) :: assignEach es env := by
  cases e <;> first | rfl | (cases t <;> cases h)
theorem tgs_each {Z : Sta} {env : Env} : ∀ {ts : List Tg} {es : List Expr}, ckTgs Z ts es = true → (assignEach es env).length = es.length ∧ (assignEach es env).findIdx? (·.1) = none
  | [], [], _ => ⟨rfl, rfl⟩
  | [], _ :: _, h => by cases h
  | _ :: _, [], h => by cases h
  | t :: ts, e :: es, h => by
    unfold ckTgs at h
    simp only [Bool.and_eq_true] at h
    obtain ⟨h1, h2⟩ := tgs_each (env := env) h.2
    rw [tg_each h.1]
    refine ⟨by rw [List.length_cons, List.length_cons, h1], ?_⟩
    rw [List.findIdx?_cons, h2]
    rfl
mutual
theorem pg_of {X : Cx} {Z : Sta} (hN : X.N = Z.N) (hsc : X.env.scope = Z.sc) (nd : Z.N.Nodup) (calm : Z.hot = false → X.calm = true) (hfn : X.fn = Z.fnB) : ∀ (t : Tg) (e : Expr), ckTg Z t e = true → PG X e (gOf X.K t)
  | .nm i, e, h => by
    cases e <;> (first | (cases h; done) | skip)
    rename_i x p
    unfold ckTg at h
    simp only [Bool.and_eq_true, decide_eq_true_eq] at h
    obtain ⟨h1, h2⟩ := h
    have hl : Loc X.env.scope x ∧ (X.fn x = true ∨ X.env.scope.names.lookup x = some .local) := by
      rw [hsc, hfn]
      unfold locB at h2
      split at h2
      · exact ⟨.inl (by assumption), .inr (by assumption)⟩
      · exact ⟨.inr (by assumption), .inl h2⟩
      · cases h2
    exact pg_name (hN ▸ nd) (by rw [hN]; exact h1) hl.1 hl.2
  | .tp ts, e, h => by
    cases e <;> (first | (cases h; done) | skip)
    rename_i es k p
    unfold ckTg at h
    simp only [Bool.and_eq_true, decide_eq_true_eq] at h
    obtain ⟨⟨hz, h1⟩, h2⟩ := h
    exact pg_tup (calm (cold hz)) (pgs_of hN hsc nd calm hfn ts es h2) ((tgs_each h2).1.trans h1) (tgs_each h2).2
theorem pgs_of {X : Cx} {Z : Sta} (hN : X.N = Z.N) (hsc : X.env.scope = Z.sc) (nd : Z.N.Nodup) (calm : Z.hot = false → X.calm = true) (hfn : X.fn = Z.fnB) : ∀ (ts : List Tg) (es : List Expr), ckTgs Z ts es = true → PGs X es (gsOf X.K ts)
  | [], [], _ => pgs_nil
  | [], _ :: _, h => by cases h
  | _ :: _, [], h => by cases h
  | t :: ts, e :: es, h => by
    unfold ckTgs at h
    simp only [Bool.and_eq_true] at h
    exact pgs_cons (pg_of hN hsc nd calm hfn t e h.1) (pgs_of hN hsc nd calm hfn ts es h.2) (by rw [tg_each h.1]; rfl)
end
end
theorem bindTs_len : ∀ {ts : List Tg} {ds : List D} {ρ ρ' : Env'}, bindTs ts ds ρ = some ρ' → ds.length = ts.length
  | [], [], _, _, _ => rfl
  | [], _ :: _, _, _, h => by cases h
  | _ :: _, [], _, _, h => by cases h
  | t :: ts, d :: ds, ρ, ρ', h => by
    have e' : ((bindT t d ρ).bind fun ρ' => bindTs ts ds ρ') = some ρ' := h
    cases c : bindT t d ρ with
    | none => rw [c] at e'; cases e'
    | some ρ1 =>
      rw [c] at e'
      rw [List.length_cons, List.length_cons, bindTs_len (show bindTs ts ds ρ1 = some ρ' from e')]
mutual
theorem g_run {K : PySem.W.Frag} {B : Hp} {α : List Addr} {F H : Hp} {κ : Store} (S : St K B α F κ H) : ∀ (t : Tg) (d : D) (v : V) (ρ ρ' : Env') (σ : L2.St) (Q : L2.St → Hp → Prop), Rep K α F d v → RepE K α F ρ σ → bindT t d ρ = some ρ' → (∀ σ', RepE K α F ρ' σ' → Q σ' H) → gOf K t v σ H Q
  | .nm i, d, v, ρ, ρ', σ, Q, r, E, e, q => by
    cases e
    exact q _ (E.set i r)
  | .tp ts, d, v, ρ, ρ', σ, Q, r, E, e, q => by
    cases d <;> (first | (cases e; done) | skip)
    rename_i ds
    unfold Rep at r
    obtain ⟨a, vs, rfl, sq, rl⟩ := r
    have e' : bindTs ts ds ρ = some ρ' := e
    exact ⟨a, vs, rfl, S.sqT sq, rl.length ▸ bindTs_len e', gs_run S ts ds vs ρ ρ' σ Q rl E e' q⟩
theorem gs_run {K : PySem.W.Frag} {B : Hp} {α : List Addr} {F H : Hp} {κ : Store} (S : St K B α F κ H) : ∀ (ts : List Tg) (ds : List D) (vs : List V) (ρ ρ' : Env') (σ : L2.St) (Q : L2.St → Hp → Prop), RepL K α F ds vs → RepE K α F ρ σ → bindTs ts ds ρ = some ρ' → (∀ σ', RepE K α F ρ' σ' → Q σ' H) → gsOf K ts vs σ H Q
  | [], [], vs, ρ, ρ', σ, Q, r, E, e, q => by
    cases e
    unfold RepL at r
    subst r
    exact ⟨rfl, q _ E⟩
  | [], _ :: _, _, _, _, _, _, _, _, e, _ => by cases e
  | _ :: _, [], _, _, _, _, _, _, _, e, _ => by cases e
  | t :: ts, d :: ds, vs, ρ, ρ', σ, Q, r, E, e, q => by
    unfold RepL at r
    obtain ⟨v, w, rfl, r1, r2⟩ := r
    have e' : ((bindT t d ρ).bind fun ρ' => bindTs ts ds ρ') = some ρ' := e
    cases c : bindT t d ρ with
    | none => rw [c] at e'; cases e'
    | some ρ1 =>
      rw [c] at e'
      have e2 : bindTs ts ds ρ1 = some ρ' := e'
      exact ⟨v, w, rfl, g_run S t d v ρ ρ1 σ _ r1 E c fun σ1 E1 => gs_run S ts ds w ρ1 ρ' σ1 Q r2 E1 e2 q⟩
end
end I3

set_option Elab.async false
set_option linter.all false
set_option autoImplicit false
set_option maxRecDepth 100000
set_option maxHeartbeats 4000000
/-! I3j: list comprehensions. -/
namespace I3
open PySem PySem.Spec PyProof.Rows L2

theorem wipe_get {σ : L2.St} {j : Nat} : ∀ {vs : List Nat}, (wipe σ vs)[j]? = if j ∈ vs then σ[j]?.map (fun _ => none) else σ[j]?
  | [] => by unfold wipe; rw [if_neg (by simp)]
  | v :: vs => by
    unfold wipe
    have ih := wipe_get (σ := σ) (j := j) (vs := vs)
    by_cases e : j = v
    · subst e
      rw [if_pos List.mem_cons_self]
      have hl := wipe_length σ vs
      by_cases h : j < σ.length
      · rw [List.getElem?_set_self (hl ▸ h), List.getElem?_eq_getElem h]
        rfl
      · rw [List.getElem?_eq_none (by rw [List.length_set, hl]; omega), List.getElem?_eq_none (by omega)]
        rfl
    · rw [List.getElem?_set_ne (Ne.symm e), ih]
      by_cases h : j ∈ vs
      · rw [if_pos h, if_pos (List.mem_cons_of_mem _ h)]
      · rw [if_neg h, if_neg (by simp [e, h])]
theorem wipe_wipe {σ : L2.St} {vs : List Nat} : wipe (wipe σ vs) vs = wipe σ vs := by
  apply List.ext_getElem?
  intro j
  rw [wipe_get, wipe_get]
  by_cases h : j ∈ vs
  · rw [if_pos h]
    cases σ[j]? <;> simp [h]
  · rw [if_neg h]
theorem wipe_set {σ : L2.St} {vs : List Nat} {i : Nat} {x : Option V} (h : i ∈ vs) : wipe (σ.set i x) vs = wipe σ vs := by
  apply List.ext_getElem?
  intro j
  rw [wipe_get, wipe_get]
  by_cases e : j ∈ vs
  · rw [if_pos e, if_pos e, List.getElem?_set]
    by_cases q : i = j
    · rw [if_pos q]
      subst q
      by_cases l : i < σ.length
      · rw [if_pos l, List.getElem?_eq_getElem l]
        rfl
      · rw [if_neg l, List.getElem?_eq_none (by omega)]

    · rw [if_neg q]
  · rw [if_neg e, if_neg e, List.getElem?_set_ne (by rintro rfl; exact e h)]
theorem RepE.unset {K : PySem.W.Frag} {α : List Addr} {F : Hp} {ρ : Env'} {σ : L2.St} (i : Nat) (h : RepE K α F ρ σ) : RepE K α F (ρ.set i none) (σ.set i none) where
  len := by rw [List.length_set, List.length_set]; exact h.len
  at_ := fun j e q => by
    by_cases z : j = i
    · subst z
      have l := (List.getElem?_eq_some_iff.mp q).1
      rw [List.length_set] at l
      rw [List.getElem?_set_self l] at q
      cases q
    · rw [List.getElem?_set_ne (Ne.symm z)] at q
      obtain ⟨w, q1, q2⟩ := h.at_ j e q
      exact ⟨w, by rw [List.getElem?_set_ne (Ne.symm z)]; exact q1, q2⟩
theorem RepE.wipe {K : PySem.W.Frag} {α : List Addr} {F : Hp} {ρ : Env'} {σ : L2.St} (h : RepE K α F ρ σ) : ∀ vs : List Nat, RepE K α F (wipeE ρ vs) (L2.wipe σ vs)
  | [] => h
  | v :: vs => (RepE.wipe h vs).unset v
mutual
/-- a target that fills slots of vs alone -/
theorem g_keep {K : PySem.W.Frag} {vs : List Nat} : ∀ (t : Tg) (v : V) (σ : L2.St) (H : Hp) (Q : L2.St → Hp → Prop), (∀ i ∈ t.slots, i ∈ vs) → gOf K t v σ H Q → gOf K t v σ H (fun σ' H' => Q σ' H' ∧ wipe σ' vs = wipe σ vs)
  | .nm i, v, σ, H, Q, h, q => ⟨q, wipe_set (h i (by unfold Tg.slots; simp))⟩
  | .tp ts, v, σ, H, Q, h, q => by
    obtain ⟨a, xs, e, sq, hl, q⟩ := q
    exact ⟨a, xs, e, sq, hl, gs_keep ts xs σ H Q (by unfold Tg.slots at h; exact h) q⟩
theorem gs_keep {K : PySem.W.Frag} {vs : List Nat} : ∀ (ts : List Tg) (xs : List V) (σ : L2.St) (H : Hp) (Q : L2.St → Hp → Prop), (∀ i ∈ Tg.slotsL ts, i ∈ vs) → gsOf K ts xs σ H Q → gsOf K ts xs σ H (fun σ' H' => Q σ' H' ∧ wipe σ' vs = wipe σ vs)
  | [], xs, σ, H, Q, h, q => ⟨q.1, q.2, rfl⟩
  | t :: ts, xs, σ, H, Q, h, q => by
    obtain ⟨v, r, e, q⟩ := q
    unfold Tg.slotsL at h
    refine ⟨v, r, e, g_mono t v σ H _ _ (fun σ1 H1 z => ?_) (g_keep t v σ H _ (fun i hi => h i (List.mem_append_left _ hi)) q)⟩
    have z2 := gs_keep ts r σ1 H1 Q (fun i hi => h i (List.mem_append_right _ hi)) z.1
    exact gs_mono ts r σ1 H1 _ _ (fun σ2 H2 y => ⟨y.1, y.2.trans z.2⟩) z2
theorem g_mono {K : PySem.W.Frag} : ∀ (t : Tg) (v : V) (σ : L2.St) (H : Hp) (Q Q' : L2.St → Hp → Prop), (∀ σ' H', Q σ' H' → Q' σ' H') → gOf K t v σ H Q → gOf K t v σ H Q'
  | .nm i, v, σ, H, Q, Q', h, q => h _ _ q
  | .tp ts, v, σ, H, Q, Q', h, q => by
    obtain ⟨a, xs, e, sq, hl, q⟩ := q
    exact ⟨a, xs, e, sq, hl, gs_mono ts xs σ H Q Q' h q⟩
theorem gs_mono {K : PySem.W.Frag} : ∀ (ts : List Tg) (xs : List V) (σ : L2.St) (H : Hp) (Q Q' : L2.St → Hp → Prop), (∀ σ' H', Q σ' H' → Q' σ' H') → gsOf K ts xs σ H Q → gsOf K ts xs σ H Q'
  | [], xs, σ, H, Q, Q', h, q => ⟨q.1, h _ _ q.2⟩
  | t :: ts, xs, σ, H, Q, Q', h, q => by
    obtain ⟨v, r, e, q⟩ := q
    exact ⟨v, r, e, g_mono t v σ H _ _ (fun σ1 H1 z => gs_mono ts r σ1 H1 Q Q' h z) q⟩
end

def neverW : WX := fun _ _ _ _ => False
/-- a comprehension's turn -/
def compStep (t : Tg) (own : List Nat) (ρ : Env') (mc : Env' → Store → Res Bool) (me : Env' → Store → Res D) : D → Store → Res (Option D) := fun d κ => match bindT t d (wipeE ρ own) with
  | none => .bad
  | some ρ' => (mc ρ' κ).bind fun b κ => (match b with
    | true => (me ρ' κ).bind fun x κ => .ok (some x) κ
    | false => .ok none κ)
theorem nox_bind {β δ : Type} (r : Res β) (f : β → Store → Res δ) : (r.bind f).nox = r.nox.bind fun a κ => (f a κ).nox := by
  cases r <;> rfl
theorem post_nox {K : PySem.W.Frag} {B : Hp} {σ : L2.St} {α : List Addr} {F : Hp} {Q : VK} {W : WX} {r : Res D} (h : Post K B W σ α F Q r.nox) : Post K B neverW σ α F Q r := by
  cases r with
  | ok d κ => exact h
  | exc c fs κ => exact False.elim h
  | bad => exact h
theorem tE_comp {K : PySem.W.Frag} {W : WX} {σ : L2.St} {H : Hp} {Q : VK} {ms : Env' → Store → Res Itm} {mc : Env' → Store → Res Bool} {me : Env' → Store → Res D} {t : Tg} {own : List Nat} (ht : ∀ i ∈ t.slots, i ∈ own) :
    tE K W (fun ρ κ => (ms ρ κ).bind fun J κ => if J.len ≤ 16777216 then (compL J (compStep t own ρ mc me) J.len [] κ).nox.bind fun ds κ => .ok (.lst ds) κ else .bad) σ H Q →
    tLc (iS K W ms) (gOf K t) (tT K neverW mc) (tE K neverW me) own σ H Q := by
  rintro ⟨B, α, F, κ, ρ, S, E, q⟩
  refine ⟨B, α, F, κ, ρ, S, E, ?_⟩
  dsimp only at q
  cases e : ms ρ κ with
  | bad => rw [e] at q; exact False.elim q
  | exc c fs κ1 => rw [e] at q; exact q
  | ok J κ1 =>
    rw [e] at q
    rw [Res.bind_ok] at q
    by_cases hJ : J.len ≤ 16777216
    case neg =>
      rw [if_neg hJ] at q
      exact False.elim q
    rw [if_pos hJ] at q
    intro T H1 α1 F1 a1 f1 S1 hT Da hD
    have hz : sizeLine = 16777216 := sizeLine_eq
    -- the invariant
    let Fin : List D → Store → Res D := fun ds κ => .ok (.lst ds) κ
    let Pv : Nat → Hp → Prop := fun i H' => ∃ α' F' κ' ds vs, AExt α1 α' ∧ FExt F1 F' ∧ St K (upd B Da (.lst vs)) α' F' κ' H' ∧ RepL K α' F' ds vs ∧ ds.length ≤ i ∧
      Post K B W σ α' F' Q ((compL J (compStep t own ρ mc me) (J.len - i) ds κ').nox.bind Fin)
    refine ⟨fun i m H' => m = J.len - i ∧ i ≤ J.len ∧ Pv i H', ⟨J.len, by simp, Nat.zero_le _, ?_⟩, ?_⟩
    · refine ⟨α1, F1, κ1, [], [], AExt.refl _, FExt.refl _, ?_, RepL.nil, Nat.le_refl _, Post.mono a1 f1 q⟩
      exact (S1.alloc hD).hide upd_same (S1.fresh hD) (S1.noCell hD)
    · rintro i m H' ⟨rfl, hi, α', F', κ', ds, vs, ha, hf, S', rl, hdl, q'⟩
      have hDa : H' Da = some (.lst vs) := S'.prv Da _ upd_same
      by_cases hlt : i < J.len
      · obtain ⟨n, hn⟩ : ∃ n, J.len - i = n + 1 := ⟨J.len - i - 1, by omega⟩
        rw [hn] at q'
        unfold compL at q'
        have hji : J.len - (n + 1) = i := by omega
        rw [hji] at q'
        cases c : J.get i κ' with
        | none => rw [c] at q'; exact False.elim q'
        | some d =>
          rw [c] at q'
          dsimp only at q'
          obtain ⟨go, yl⟩ := hT.go _ α' F' κ' H' i d ha hf S' hlt c
          refine .inr ⟨go, Pv (i + 1), fun H2 p => ⟨J.len - (i + 1), by omega, rfl, hlt, p⟩, fun x H2 y => ?_⟩
          obtain ⟨F2, f2, S2, r2⟩ := yl x H2 y
          have E2 : RepE K α' F2 (wipeE ρ own) (L2.wipe σ own) := ((E.mono (a1.trans ha) (f1.trans (hf.trans f2)))).wipe own
          cases b : bindT t d (wipeE ρ own) with
          | none =>
            have : compStep t own ρ mc me d κ' = .bad := by unfold compStep; rw [b]
            rw [this] at q'
            exact False.elim q'
          | some ρ' =>
            have hstep : compStep t own ρ mc me d κ' = (mc ρ' κ').bind fun b κ => (match b with
              | true => (me ρ' κ).bind fun x κ => .ok (some x) κ
              | false => .ok none κ) := by unfold compStep; rw [b]
            rw [hstep] at q'
            have g1 : gOf K t x (L2.wipe σ own) H2 (fun σ' H'' => RepE K α' F2 ρ' σ' ∧ H'' = H2) := g_run S2 t d x _ ρ' _ _ r2 E2 b fun σ' E' => ⟨E', rfl⟩
            refine g_mono t x _ H2 _ _ (fun σ3 H3 z => ?_) (g_keep t x _ H2 _ ht g1)
            obtain ⟨⟨E3, rfl⟩, hw⟩ := z
            refine ⟨hw.trans wipe_wipe, ?_⟩
            rw [Res.bind_assoc, nox_bind, Res.bind_assoc] at q'
            -- the tests
            refine ⟨_, α', F2, κ', ρ', S2, E3, ?_⟩
            cases cm : mc ρ' κ' with
            | bad => rw [cm] at q'; exact False.elim q'
            | exc cc fs κ2 => rw [cm] at q'; exact False.elim q'
            | ok bb κ2 =>
              rw [cm] at q'
              intro H4 α4 F4 a4 f4 S4
              cases bb with
              | false =>
                rw [if_neg (by decide)]
                exact ⟨α4, F4, κ2, ds, vs, ha.trans a4, (hf.trans f2).trans f4, S4, rl.mono a4 (f2.trans f4), by omega, by
                  have e1 : J.len - (i + 1) = n := by omega
                  rw [e1]
                  exact Post.mono a4 (f2.trans f4) q'⟩
              | true =>
                rw [if_pos rfl]
                refine ⟨_, α4, F4, κ2, ρ', S4, E3.mono a4 f4, ?_⟩
                dsimp only [Res.nox_ok, Res.bind_ok] at q'
                rw [Res.bind_assoc, nox_bind, Res.bind_assoc] at q'
                cases ce : me ρ' κ2 with
                | bad => rw [ce] at q'; exact False.elim q'
                | exc cc fs κ3 => rw [ce] at q'; exact False.elim q'
                | ok xd κ3 =>
                  rw [ce] at q'
                  intro y5 H5 α5 F5 a5 f5 S5 r5
                  refine ⟨vs, S5.prv Da _ upd_same, by rw [hz, ← rl.length]; omega, α5, F5, κ3, ds ++ [xd], vs ++ [y5], (ha.trans a4).trans a5, ((hf.trans f2).trans f4).trans f5, S5.store, (rl.mono (a4.trans a5) (f2.trans (f4.trans f5))).append (RepL.cons r5 RepL.nil), by rw [List.length_append, List.length_singleton]; omega, by
                    have e1 : J.len - (i + 1) = n := by omega
                    rw [e1]
                    exact Post.mono (a4.trans a5) (f2.trans (f4.trans f5)) q'⟩
      · have e0 : i = J.len := by omega
        subst e0
        rw [Nat.sub_self] at q'
        unfold compL at q'
        cases c : J.fin κ' with
        | false => rw [c] at q'; exact False.elim q'
        | true =>
          rw [c, if_pos rfl] at q'
          dsimp only [Res.nox_ok, Res.bind_ok] at q'
          refine .inl ⟨hT.stop _ α' F' κ' H' ha hf S' c, ?_⟩
          have q2 : Post K B W σ α' F' Q (.ok (.lst ds) κ') := q'
          have dd := S'.dis Da _ upd_same
          have hn := S1.fresh_b hD
          have hB : ∀ a o, B a = some o → (upd B Da (.lst vs)) a = some o := fun a o e => by rw [upd_ne (ne_of_none e hn)]; exact e
          refine q2 _ H' α' (upd F' Da (.lst vs)) (AExt.refl _) (FExt.new dd.1) ((S'.priv hB).freeze hDa dd.1 dd.2 hn) ?_
          unfold Rep
          exact ⟨Da, vs, rfl, SqL.of upd_same, rl.mono (AExt.refl _) (FExt.new dd.1)⟩
end I3

set_option Elab.async false
set_option linter.all false
set_option autoImplicit false
set_option maxRecDepth 100000
set_option maxHeartbeats 8000000
/-! I3k: the checker is right: expressions. -/
namespace I3
open PySem PySem.Spec PyProof.Rows L2
section
variable {K : PySem.W.Frag} {W : WX} {σ : L2.St} {H : Hp} {Q : VK}
theorem tE_and {ma mb : Env' → Store → Res D} : tE K W (fun ρ κ => (ma ρ κ).bind fun x κ => (match x with
    | .bl true => mb ρ κ
    | .bl false => .ok (.bl false) κ
    | _ => .bad)) σ H Q → tAndV (tE K W ma) (tE K W mb) σ H Q := by
  rintro ⟨B, α, F, κ, ρ, S, E, q⟩
  refine tE_seq S E q fun d1 κ1 v1 H1 α1 F1 e01 a1 f1 S1 E1 r1 q1 => ?_
  cases d1 <;> (first | (exact False.elim q1) | skip)
  rename_i b
  obtain rfl := r1
  refine ⟨b, rfl, ?_⟩
  cases b with
  | true =>
    rw [if_pos rfl]
    exact ⟨B, α1, F1, κ1, ρ, S1, E1, q1⟩
  | false =>
    rw [if_neg (by decide)]
    exact q1 _ H1 α1 F1 (AExt.refl _) (FExt.refl _) S1 rfl
theorem tE_or {ma mb : Env' → Store → Res D} : tE K W (fun ρ κ => (ma ρ κ).bind fun x κ => (match x with
    | .bl true => .ok (.bl true) κ
    | .bl false => mb ρ κ
    | _ => .bad)) σ H Q → tOrV (tE K W ma) (tE K W mb) σ H Q := by
  rintro ⟨B, α, F, κ, ρ, S, E, q⟩
  refine tE_seq S E q fun d1 κ1 v1 H1 α1 F1 e01 a1 f1 S1 E1 r1 q1 => ?_
  cases d1 <;> (first | (exact False.elim q1) | skip)
  rename_i b
  obtain rfl := r1
  refine ⟨b, rfl, ?_⟩
  cases b with
  | false =>
    rw [if_neg (by decide)]
    exact ⟨B, α1, F1, κ1, ρ, S1, E1, q1⟩
  | true =>
    rw [if_pos rfl]
    exact q1 _ H1 α1 F1 (AExt.refl _) (FExt.refl _) S1 rfl
theorem tE_ife {mt : Env' → Store → Res Bool} {ma mb : Env' → Store → Res D} : tE K W (fun ρ κ => (mt ρ κ).bind fun t κ => (match t with
    | true => ma ρ κ
    | false => mb ρ κ)) σ H Q → tIf (tT K W mt) (tE K W ma) (tE K W mb) σ H Q := by
  rintro ⟨B, α, F, κ, ρ, S, E, q⟩
  refine tT_seq S E (PQ := fun α F r => Post K B W σ α F Q r) q Post.mono (fun _ _ _ h => h) (fun h => h) fun b κ1 H1 α1 F1 e01 a1 f1 S1 E1 q1 => ?_
  cases b with
  | true =>
    rw [if_pos rfl]
    exact ⟨B, α1, F1, κ1, ρ, S1, E1, q1⟩
  | false =>
    rw [if_neg (by decide)]
    exact ⟨B, α1, F1, κ1, ρ, S1, E1, q1⟩
theorem tT_not {mt : Env' → Store → Res Bool} {Q : Bool → Hp → Prop} : tT K W (fun ρ κ => (mt ρ κ).bind fun b κ => .ok (!b) κ) σ H Q → tNot (tT K W mt) σ H Q := by
  rintro ⟨B, α, F, κ, ρ, S, E, q⟩
  exact tT_seq S E (PQ := fun α F r => PostT K B W σ α F Q r) q PostT.mono (fun _ _ _ h => h) (fun h => h) fun b κ1 H1 α1 F1 e01 a1 f1 S1 E1 q1 => q1 H1 α1 F1 (AExt.refl _) (FExt.refl _) S1
theorem tT_and {ma mb : Env' → Store → Res Bool} {Q : Bool → Hp → Prop} : tT K W (fun ρ κ => (ma ρ κ).bind fun t κ => (match t with
    | true => mb ρ κ
    | false => .ok false κ)) σ H Q → tAnd (tT K W ma) (tT K W mb) σ H Q := by
  rintro ⟨B, α, F, κ, ρ, S, E, q⟩
  refine tT_seq S E (PQ := fun α F r => PostT K B W σ α F Q r) q PostT.mono (fun _ _ _ h => h) (fun h => h) fun b κ1 H1 α1 F1 e01 a1 f1 S1 E1 q1 => ?_
  cases b with
  | true =>
    rw [if_pos rfl]
    exact ⟨B, α1, F1, κ1, ρ, S1, E1, q1⟩
  | false =>
    rw [if_neg (by decide)]
    exact q1 H1 α1 F1 (AExt.refl _) (FExt.refl _) S1
theorem tT_or {ma mb : Env' → Store → Res Bool} {Q : Bool → Hp → Prop} : tT K W (fun ρ κ => (ma ρ κ).bind fun t κ => (match t with
    | true => .ok true κ
    | false => mb ρ κ)) σ H Q → tOr (tT K W ma) (tT K W mb) σ H Q := by
  rintro ⟨B, α, F, κ, ρ, S, E, q⟩
  refine tT_seq S E (PQ := fun α F r => PostT K B W σ α F Q r) q PostT.mono (fun _ _ _ h => h) (fun h => h) fun b κ1 H1 α1 F1 e01 a1 f1 S1 E1 q1 => ?_
  cases b with
  | false =>
    rw [if_neg (by decide)]
    exact ⟨B, α1, F1, κ1, ρ, S1, E1, q1⟩
  | true =>
    rw [if_pos rfl]
    exact q1 H1 α1 F1 (AExt.refl _) (FExt.refl _) S1
theorem tT_ife {mt ma mb : Env' → Store → Res Bool} {Q : Bool → Hp → Prop} : tT K W (fun ρ κ => (mt ρ κ).bind fun t κ => (match t with
    | true => ma ρ κ
    | false => mb ρ κ)) σ H Q → (fun σ H Q => tT K W mt σ H fun c H1 => if c = true then tT K W ma σ H1 Q else tT K W mb σ H1 Q : TT) σ H Q := by
  rintro ⟨B, α, F, κ, ρ, S, E, q⟩
  refine tT_seq S E (PQ := fun α F r => PostT K B W σ α F Q r) q PostT.mono (fun _ _ _ h => h) (fun h => h) fun b κ1 H1 α1 F1 e01 a1 f1 S1 E1 q1 => ?_
  cases b with
  | true =>
    rw [if_pos rfl]
    exact ⟨B, α1, F1, κ1, ρ, S1, E1, q1⟩
  | false =>
    rw [if_neg (by decide)]
    exact ⟨B, α1, F1, κ1, ρ, S1, E1, q1⟩
theorem pt_ifExp {X : Cx} {c a b : Expr} {pos : Pos} {tc ta tb : TT} (hc : PT X c tc) (ha : PT X a ta) (hb : PT X b tb) : PT X (.IfExp c a b pos) (fun σ H Q => tc σ H fun c H1 => if c = true then ta σ H1 Q else tb σ H1 Q) := by
  refine ⟨fun pins s σ H Q I h => ?_⟩
  show wpAny _ _ (do if ← isTrue c X.env (eval c X.env) then isTrue a X.env (eval a X.env) else isTrue b X.env (eval b X.env)) _ _ s
  refine wpAny_bind (thn (hc.run pins s σ H _ I h) fun d s1 ⟨H1, I1, q1⟩ => ?_)
  cases d with
  | true => exact ha.run pins s1 σ H1 Q I1 q1
  | false => exact hb.run pins s1 σ H1 Q I1 q1
theorem tA_nil {Q : List V → Hp → Prop} : tA K W (fun _ κ => .ok [] κ) σ H Q → tNil σ H Q := by
  rintro ⟨B, α, F, κ, ρ, S, E, q⟩
  exact q [] H α F (AExt.refl _) (FExt.refl _) S RepL.nil
theorem tA_cons {ma : Env' → Store → Res D} {mb : Env' → Store → Res (List D)} {Q : List V → Hp → Prop} : tA K W (fun ρ κ => (ma ρ κ).bind fun x κ => (mb ρ κ).bind fun xs κ => .ok (x :: xs) κ) σ H Q → tCons (tE K W ma) (tA K W mb) σ H Q := by
  rintro ⟨B, α, F, κ, ρ, S, E, q⟩
  refine tE_seqG S E (PQ := fun α F r => PostA K B W σ α F Q r) q PostA.mono (fun _ _ _ h => h) (fun h => h) fun d1 κ1 v1 H1 α1 F1 e01 a1 f1 S1 E1 r1 q1 => ?_
  refine tA_seqG S1 E1 (PQ := fun α F r => PostA K B W σ α F Q r) q1 PostA.mono (fun _ _ _ h => h) (fun h => h) fun d2 κ2 v2 H2 α2 F2 e02 a2 f2 S2 E2 r2 q2 => ?_
  exact q2 (v1 :: v2) H2 α2 F2 (AExt.refl _) (FExt.refl _) S2 (RepL.cons (r1.mono a2 f2) r2)
theorem tE_f1 {ma : Env' → Store → Res D} {f : D → Store → Res D} (hn : ∀ x κ, NoExc (f x κ)) : tE K W (fun ρ κ => (ma ρ κ).bind fun x κ => f x κ) σ H Q → tCB (r1S K f) (tCons (tE K W ma) tNil) σ H Q := by
  rintro ⟨B, α, F, κ, ρ, S, E, q⟩
  refine tE_seq S E q fun d1 κ1 v1 H1 α1 F1 e01 a1 f1 S1 E1 r1 q1 => ?_
  exact ⟨B, α1, F1, κ1, d1, v1, rfl, S1, r1, Post.p q1 (hn _ _)⟩
theorem iS_val {m : Env' → Store → Res D} {R : It → Hp → Prop} : iS K W (fun ρ κ => (m ρ κ).bind fun x κ => (match itemsOf x κ with | some J => .ok J κ | none => .bad)) σ H R → iSeq K (tE K W m) σ H R := by
  rintro ⟨B, α, F, κ, ρ, S, E, q⟩
  refine tE_seqG S E (PQ := fun α F r => PostI K B W σ α F R r) q PostI.mono (fun _ _ _ h => h) (fun h => h) fun d1 κ1 v1 H1 α1 F1 e01 a1 f1 S1 E1 r1 q1 => ?_
  cases c : itemsOf d1 κ1 with
  | none => rw [c] at q1; exact False.elim q1
  | some J =>
    rw [c] at q1
    cases d1 <;> (first | (cases c; done) | skip)
    · cases c
      obtain rfl := r1
      exact .inl ⟨_, rfl, q1 _ H1 α1 F1 (AExt.refl _) (FExt.refl _) S1 itOk_str⟩
    · cases c
      unfold Rep at r1
      obtain ⟨a, vs, rfl, sq, rl⟩ := r1
      exact .inr ⟨a, rfl, .inr ⟨⟨vs, S1.sqT sq⟩, q1 _ H1 α1 F1 (AExt.refl _) (FExt.refl _) S1 (itOk_tup sq rl)⟩⟩
    · cases c
      unfold Rep at r1
      obtain ⟨a, vs, rfl, sq, rl⟩ := r1
      exact .inr ⟨a, rfl, .inl ⟨⟨vs, S1.sqL sq⟩, q1 _ H1 α1 F1 (AExt.refl _) (FExt.refl _) S1 (itOk_list sq rl)⟩⟩
    · rename_i i
      unfold Rep at r1
      obtain ⟨a, ha, rfl⟩ := r1
      unfold itemsOf at c
      dsimp only at c
      cases e : κ1[i]? with
      | none => rw [e] at c; cases c
      | some o =>
        rw [e] at c
        cases o <;> (first | (cases c; done) | skip)
        cases c
        obtain ⟨vs, e1, rl⟩ := S1.cel i a _ ha e
        exact .inr ⟨a, rfl, .inl ⟨⟨vs, SqL.of e1⟩, q1 _ H1 α1 F1 (AExt.refl _) (FExt.refl _) S1 (itOk_cell ha)⟩⟩
theorem iS_rng1 {m : Env' → Store → Res D} {R : It → Hp → Prop} : iS K W (fun ρ κ => (m ρ κ).bind fun x κ => (match x with
    | .int n => if -1000000000 < n ∧ n < 1000000000 then .ok (.fix (rangeD 0 n.toNat)) κ else .bad
    | _ => .bad)) σ H R → iRng1 (tCons (tE K W m) tNil) σ H R := by
  rintro ⟨B, α, F, κ, ρ, S, E, q⟩
  refine tE_seqG S E (PQ := fun α F r => PostI K B W σ α F R r) q PostI.mono (fun _ _ _ h => h) (fun h => h) fun d1 κ1 v1 H1 α1 F1 e01 a1 f1 S1 E1 r1 q1 => ?_
  cases d1 <;> (first | (exact False.elim q1) | skip)
  rename_i n
  obtain rfl := r1
  dsimp only at q1
  by_cases c : -1000000000 < n ∧ n < 1000000000
  · rw [if_pos c] at q1
    exact ⟨n, rfl, by omega, by omega, q1 _ H1 α1 F1 (AExt.refl _) (FExt.refl _) S1 itOk_range⟩
  · rw [if_neg c] at q1
    exact False.elim q1
theorem iS_rng2 {m m2 : Env' → Store → Res D} {R : It → Hp → Prop} : iS K W (fun ρ κ => (m ρ κ).bind fun x κ => (m2 ρ κ).bind fun y κ => (match x, y with
    | .int m, .int n => if (-1000000000 < m ∧ m < 1000000000) ∧ (-1000000000 < n ∧ n < 1000000000) then .ok (.fix (rangeD m (n - m).toNat)) κ else .bad
    | _, _ => .bad)) σ H R → iRng2 (tCons (tE K W m) (tCons (tE K W m2) tNil)) σ H R := by
  rintro ⟨B, α, F, κ, ρ, S, E, q⟩
  refine tE_seqG S E (PQ := fun α F r => PostI K B W σ α F R r) q PostI.mono (fun _ _ _ h => h) (fun h => h) fun d1 κ1 v1 H1 α1 F1 e01 a1 f1 S1 E1 r1 q1 => ?_
  refine tE_seqG S1 E1 (PQ := fun α F r => PostI K B W σ α F R r) q1 PostI.mono (fun _ _ _ h => h) (fun h => h) fun d2 κ2 v2 H2 α2 F2 e02 a2 f2 S2 E2 r2 q2 => ?_
  cases d1 <;> (first | (exact False.elim q2) | skip)
  cases d2 <;> (first | (exact False.elim q2) | skip)
  rename_i m n
  obtain rfl := r1
  obtain rfl := r2
  dsimp only at q2
  by_cases c : (-1000000000 < m ∧ m < 1000000000) ∧ (-1000000000 < n ∧ n < 1000000000)
  · rw [if_pos c] at q2
    exact ⟨m, n, rfl, ⟨by omega, by omega, by omega, by omega⟩, q2 _ H2 α2 F2 (AExt.refl _) (FExt.refl _) S2 itOk_range⟩
  · rw [if_neg c] at q2
    exact False.elim q2
theorem tE_neg {m : Env' → Store → Res D} : tE K W (fun ρ κ => (m ρ κ).bind fun x κ => (match x with | .int i => .ok (.int (-i)) κ | _ => .bad)) σ H Q → tUn (rU fun i => .int (-i)) (tE K W m) σ H Q := by
  rintro ⟨B, α, F, κ, ρ, S, E, q⟩
  refine tE_seq S E q fun d1 κ1 v1 H1 α1 F1 e01 a1 f1 S1 E1 r1 q1 => ?_
  cases d1 <;> (first | (exact False.elim q1) | skip)
  obtain rfl := r1
  exact ⟨_, rfl, q1 _ H1 α1 F1 (AExt.refl _) (FExt.refl _) S1 rfl⟩
theorem tE_not {m : Env' → Store → Res D} : tE K W (fun ρ κ => (m ρ κ).bind fun x κ => (match x with | .bl b => .ok (.bl (!b)) κ | _ => .bad)) σ H Q → tNotV (tE K W m) σ H Q := by
  rintro ⟨B, α, F, κ, ρ, S, E, q⟩
  refine tE_seq S E q fun d1 κ1 v1 H1 α1 F1 e01 a1 f1 S1 E1 r1 q1 => ?_
  cases d1 <;> (first | (exact False.elim q1) | skip)
  obtain rfl := r1
  exact ⟨_, rfl, q1 _ H1 α1 F1 (AExt.refl _) (FExt.refl _) S1 rfl⟩
theorem tE_mm {ma mb : Env' → Store → Res D} {g : Int → Int → Int} {r : List V → Hp → VK → Prop} (hr : r = fun xs H Q => ∃ i j, xs = [.int i, .int j] ∧ Q (.int (g i j)) H) : tE K W (fun ρ κ => (ma ρ κ).bind fun x κ => (mb ρ κ).bind fun y κ => (match x, y with | .int i, .int j => .ok (.int (g i j)) κ | _, _ => .bad)) σ H Q →
    tCB r (tCons (tE K W ma) (tCons (tE K W mb) tNil)) σ H Q := by
  rintro ⟨B, α, F, κ, ρ, S, E, q⟩
  refine tE_seq S E q fun d1 κ1 v1 H1 α1 F1 e01 a1 f1 S1 E1 r1 q1 => ?_
  refine tE_seq S1 E1 q1 fun d2 κ2 v2 H2 α2 F2 e02 a2 f2 S2 E2 r2 q2 => ?_
  cases d1 <;> (first | (exact False.elim q2) | skip)
  cases d2 <;> (first | (exact False.elim q2) | skip)
  obtain rfl := r1
  obtain rfl := r2
  subst hr
  exact ⟨_, _, rfl, q2 _ H2 α2 F2 (AExt.refl _) (FExt.refl _) S2 rfl⟩
theorem tE_int {ma : Env' → Store → Res D} : tE K W (fun ρ κ => (ma ρ κ).bind fun x κ => opF1 .int x κ) σ H Q →
    tCB (fun xs H Q => ((∃ i, xs = [.int i] ∧ Q (.int i) H) ∨ ∃ k, xs = [.bl k] ∧ Q (.int (if k then 1 else 0)) H) ∨ ∃ a n, xs = [.str a] ∧ PySem.intText? a = some n ∧ a.length ≤ 640 ∧ Q (.int n) H) (tCons (tE K W ma) tNil) σ H Q := by
  rintro ⟨B, α, F, κ, ρ, S, E, q⟩
  refine tE_seq S E q fun d1 κ1 v1 H1 α1 F1 e01 a1 f1 S1 E1 r1 q1 => ?_
  cases d1 <;> (first | (exact False.elim q1) | skip)
  · obtain rfl := r1
    exact .inl (.inr ⟨_, rfl, q1 _ H1 α1 F1 (AExt.refl _) (FExt.refl _) S1 rfl⟩)
  · obtain rfl := r1
    exact .inl (.inl ⟨_, rfl, q1 _ H1 α1 F1 (AExt.refl _) (FExt.refl _) S1 rfl⟩)
  · rename_i z
    obtain rfl := r1
    unfold opF1 at q1
    dsimp only at q1
    cases hn : PySem.intText? z with
    | none => rw [hn] at q1; exact False.elim q1
    | some n =>
      rw [hn] at q1
      dsimp only at q1
      by_cases hl : z.length ≤ 640
      · rw [if_pos hl] at q1
        exact .inr ⟨z, n, rfl, hn, hl, q1 _ H1 α1 F1 (AExt.refl _) (FExt.refl _) S1 rfl⟩
      · rw [if_neg hl] at q1
        exact False.elim q1
theorem call_intA {X : Cx} : CallR X (.type "int") (fun xs H Q => ((∃ i, xs = [.int i] ∧ Q (.int i) H) ∨ ∃ k, xs = [.bl k] ∧ Q (.int (if k then 1 else 0)) H) ∨ ∃ a n, xs = [.str a] ∧ PySem.intText? a = some n ∧ a.length ≤ 640 ∧ Q (.int n) H) := by
  intro pins s σ H xs us Q I rs h
  rcases h with h | h
  · exact call_int1 pins s σ H xs us Q I rs h
  · exact call_int_str pins s σ H xs us Q I rs h
theorem insOf_none {κ : Store} {d : D} {n : String} (h : tyName d κ = some n) : insOf κ d = none := by
  unfold tyName at h
  unfold insOf
  cases c : I3.cellOf κ d <;> rw [c] at h <;> first | rfl | cases h
theorem tyX_ins {B : Hp} {α : List Addr} {F : Hp} {κ : Store} {d : D} {x : V} {c : Str} {fs : List (Str × D)} {H : Hp} (S : I3.St K B α F κ H) (r : Rep K α F d x) (h : insOf κ d = some (c, fs)) (ic : InsC K (He.ga K c)) : TyX K H x (.ref (He.ga K c)) := by
  obtain ⟨a, dx, us, rfl, e1, _⟩ := ins_rep S r h
  exact .base (.ins e1 ic.cl ic.at_ ic.get ic.tk ic.mro)
theorem tE_isin {ma : Env' → Store → Res D} {t : Ty} {G : Gam} (hI : ∀ c t b, G.kI c t = some b → PySem.W.kitOne K (.ref (He.ga K c)) (.type t.nm) = some b ∧ InsC K (He.ga K c)) : tE K W (fun ρ κ => (ma ρ κ).bind fun x κ => (match opIsT G t x κ with | some b => .ok (.bl b) κ | none => .bad)) σ H Q →
    tCB (rIsi K) (tCons (tE K W ma) (tCons (tC (.ty t.nm)) tNil)) σ H Q := by
  rintro ⟨B, α, F, κ, ρ, S, E, q⟩
  refine tE_seq S E q fun d1 κ1 v1 H1 α1 F1 e01 a1 f1 S1 E1 r1 q1 => ?_
  cases c : opIsT G t d1 κ1 with
  | none => rw [c] at q1; exact False.elim q1
  | some b =>
    rw [c] at q1
    unfold opIsT at c
    cases hi : insOf κ1 d1 with
    | some cf =>
      obtain ⟨cn, fs⟩ := cf
      rw [hi] at c
      obtain ⟨k1, k2⟩ := hI _ _ _ c
      exact ⟨v1, _, _, _, b, rfl, .ty _, tyX_ins S1 r1 hi k2, k1, q1 _ H1 α1 F1 (AExt.refl _) (FExt.refl _) S1 rfl⟩
    | none =>
      rw [hi] at c
      obtain ⟨n, h1, h2⟩ := isTy_kit c
      exact ⟨v1, _, _, _, b, rfl, .ty _, ty_rep S1 r1 h1, kit_ty h2, q1 _ H1 α1 F1 (AExt.refl _) (FExt.refl _) S1 rfl⟩
theorem tE_isown {ma : Env' → Store → Res D} {c : Str} {G : Gam} (hB : ∀ n c b, G.kB n c = some b → PySem.W.kitOne K (.type n) (.ref (He.ga K c)) = some b) (hO : ∀ a c b, G.kO a c = some b → PySem.W.kitOne K (.ref (He.ga K a)) (.ref (He.ga K c)) = some b ∧ InsC K (He.ga K a)) :
    tE K W (fun ρ κ => (ma ρ κ).bind fun x κ => (match opIsC G c x κ with | some b => .ok (.bl b) κ | none => .bad)) σ H Q →
    tCB (rIsi K) (tCons (tE K W ma) (tCons (tC (.ref (He.ga K c))) tNil)) σ H Q := by
  rintro ⟨B, α, F, κ, ρ, S, E, q⟩
  refine tE_seq S E q fun d1 κ1 v1 H1 α1 F1 e01 a1 f1 S1 E1 r1 q1 => ?_
  cases cc : opIsC G c d1 κ1 with
  | none => rw [cc] at q1; exact False.elim q1
  | some b =>
    rw [cc] at q1
    unfold opIsC at cc
    cases hi : insOf κ1 d1 with
    | some cf =>
      obtain ⟨cn, fs⟩ := cf
      rw [hi] at cc
      obtain ⟨k1, k2⟩ := hO _ _ _ cc
      exact ⟨v1, _, _, _, b, rfl, .own _, tyX_ins S1 r1 hi k2, k1, q1 _ H1 α1 F1 (AExt.refl _) (FExt.refl _) S1 rfl⟩
    | none =>
      rw [hi] at cc
      dsimp only at cc
      cases hn : tyName d1 κ1 with
      | none => rw [hn] at cc; cases cc
      | some n =>
        rw [hn] at cc
        exact ⟨v1, _, _, _, b, rfl, .own _, ty_rep S1 r1 hn, hB _ _ _ cc, q1 _ H1 α1 F1 (AExt.refl _) (FExt.refl _) S1 rfl⟩
theorem asStrs_vs {α : List Addr} {F : Hp} : ∀ {ds : List D} {ys : List Str} {vs : List V}, asStrs ds = some ys → RepL K α F ds vs → vs = ys.map V.str
  | [], ys, vs, h, r => by
    cases h
    unfold RepL at r
    exact r
  | d :: ds, ys, vs, h, r => by
    cases d <;> (first | (cases h; done) | skip)
    rename_i z
    unfold asStrs at h
    cases e : asStrs ds with
    | none => rw [e] at h; cases h
    | some w =>
      rw [e] at h
      cases h
      unfold RepL at r
      obtain ⟨v, u, rfl, r1, r2⟩ := r
      obtain rfl := r1
      rw [asStrs_vs e r2]
      rfl
theorem opJoin_nx {d e : D} {κ : Store} : NoExc (opJoin d e κ) := by
  intro c fs κ' h
  unfold opJoin at h
  split at h <;> first | (cases h; done) | skip
  split at h <;> first | (cases h; done) | skip
  split at h <;> cases h
theorem tE_join {ma mb : Env' → Store → Res D} : tE K W (fun ρ κ => (ma ρ κ).bind fun x κ => (match x with
    | .str z => (mb ρ κ).bind fun y κ => opJoin (.str z) y κ
    | _ => .bad)) σ H Q →
    tM1 (fun x xs H Q => ∃ a p, ∃ ys : List Str, x = .str a ∧ xs = [.ref p] ∧ (SqL K H p (ys.map V.str) ∨ SqT K H p (ys.map V.str)) ∧
      (ys.map (·.length)).sum + ys.length * a.length ≤ 16777216 ∧ Q (.str (Txt.join a ys)) H) (tE K W ma) (tE K W mb) σ H Q := by
  rintro ⟨B, α, F, κ, ρ, S, E, q⟩
  refine tE_seq S E q fun d1 κ1 v1 H1 α1 F1 e01 a1 f1 S1 E1 r1 q1 => ?_
  cases d1 <;> (first | (exact False.elim q1) | skip)
  rename_i z
  obtain rfl := r1
  refine ⟨⟨z, rfl⟩, ?_⟩
  refine tE_seq S1 E1 q1 fun d2 κ2 v2 H2 α2 F2 e02 a2 f2 S2 E2 r2 q2 => ?_
  unfold opJoin at q2
  have hs := (seq_rep S2 r2).1
  cases ce : cellOf κ2 d2 <;> (first | (rw [ce] at q2; exact False.elim q2) | skip)
  rename_i xs
  obtain ⟨p, vs, rfl, sq, rl⟩ := hs xs ce
  rw [ce] at q2
  dsimp only at q2
  cases cs : asStrs xs with
  | none => rw [cs] at q2; exact False.elim q2
  | some ys =>
    rw [cs] at q2
    dsimp only at q2
    by_cases hb : (ys.map (·.length)).sum + ys.length * z.length ≤ 16777216
    · rw [if_pos hb] at q2
      rw [asStrs_vs cs rl] at sq
      exact ⟨z, p, ys, rfl, rfl, .inl sq, hb, q2 _ H2 α2 F2 (AExt.refl _) (FExt.refl _) S2 rfl⟩
    · rw [if_neg hb] at q2
      exact False.elim q2
/-! ### dict displays -/
def flatP : List (V × V) → List V
  | [] => []
  | p :: r => p.1 :: p.2 :: flatP r
def trsOf (K : PySem.W.Frag) (W : WX) (G : Gam) : List E → List (TE × TE)
  | k :: v :: r => (tE K W (ev G k), tE K W (ev G v)) :: trsOf K W G r
  | _ => []
def evenL {β : Type} : List β → Bool
  | [] => true
  | [_] => false
  | _ :: _ :: r => evenL r
theorem tP_run {B : Hp} {G : Gam} {ρ : Env'} : ∀ (es : List E), evenL es = true → ∀ {α : List Addr} {F H : Hp} {κ : Store} {Q0 : List V → Hp → Prop} {Qp : List (V × V) → Hp → Prop}, St K B α F κ H → RepE K α F ρ σ → PostA K B W σ α F Q0 (evL G es ρ κ) → (∀ ps H', Q0 (flatP ps) H' → Qp ps H') → tPairs (trsOf K W G es) σ H Qp
  | [], _, α, F, H, κ, Q0, Qp, S, E, q, h => h [] H (q [] H α F (AExt.refl _) (FExt.refl _) S RepL.nil)
  | [_], e, _, _, _, _, _, _, _, _, _, _ => by cases e
  | k :: v :: r, e, α, F, H, κ, Q0, Qp, S, E, q, h => by
    refine tE_seqG (f := fun x κ => (evL G (v :: r) ρ κ).bind fun xs κ => .ok (x :: xs) κ) S E (PQ := fun α F r => PostA K B W σ α F Q0 r) q PostA.mono (fun _ _ _ h => h) (fun h => h) fun d1 κ1 v1 H1 α1 F1 _ a1 f1 S1 E1 r1 q1 => ?_
    have q1' : PostA K B W σ α1 F1 Q0 ((ev G v ρ κ1).bind fun y κ => (evL G r ρ κ).bind fun ys κ => .ok (d1 :: y :: ys) κ) := by
      have e : (evL G (v :: r) ρ κ1).bind (fun xs κ => Res.ok (d1 :: xs) κ) = (ev G v ρ κ1).bind fun y κ => (evL G r ρ κ).bind fun ys κ => .ok (d1 :: y :: ys) κ := by
        show ((ev G v ρ κ1).bind fun x κ => (evL G r ρ κ).bind fun xs κ => .ok (x :: xs) κ).bind _ = _
        simp only [Res.bind_assoc]
        rfl
      rw [← e]
      exact q1
    refine tE_seqG S1 E1 (PQ := fun α F r => PostA K B W σ α F Q0 r) q1' PostA.mono (fun _ _ _ h => h) (fun h => h) fun d2 κ2 v2 H2 α2 F2 _ a2 f2 S2 E2 r2 q2 => ?_
    refine tP_run r e (Q0 := fun ws H' => Q0 (v1 :: v2 :: ws) H') S2 E2 ?_ fun ps H' z => h ((v1, v2) :: ps) H' z
    cases c : evL G r ρ κ2 with
    | ok ds κ3 =>
      rw [c] at q2
      exact fun ws H' α' F' a f S' rl => q2 (v1 :: v2 :: ws) H' α' F' a f S' (RepL.cons ((r1.mono a2 f2).mono a f) (RepL.cons (r2.mono a f) rl))
    | exc c' fs κ3 =>
      rw [c] at q2
      exact q2
    | bad =>
      rw [c] at q2
      exact q2
theorem flat_inj : ∀ {kvs : List (Key × V)} {ps : List (V × V)}, flatP ps = flatP (kvs.map fun kv => (kV kv.1, kv.2)) → ps = kvs.map fun kv => (kV kv.1, kv.2)
  | [], [], _ => rfl
  | [], p :: ps, h => by cases h
  | kv :: kvs, [], h => by cases h
  | kv :: kvs, p :: ps, h => by
    have h' : p.1 :: p.2 :: flatP ps = kV kv.1 :: kv.2 :: flatP (kvs.map fun kv => (kV kv.1, kv.2)) := h
    injection h' with h1 h2
    injection h2 with h2 h3
    obtain ⟨p1, p2⟩ := p
    dsimp only at h1 h2
    subst h1 h2
    rw [List.map_cons, flat_inj h3]
theorem pairUp_rep {α : List Addr} {F : Hp} : ∀ {ds : List D} {kvs : List (Key × D)} {vs : List V}, pairUp ds = some kvs → RepL K α F ds vs → ∃ us : List (Key × V), vs = flatP (us.map fun kv => (kV kv.1, kv.2)) ∧ RepK K α F kvs us ∧ us.map (·.1) = kvs.map (·.1)
  | [], kvs, vs, h, r => by
    cases h
    unfold RepL at r
    subst r
    exact ⟨[], rfl, by unfold RepK; rfl, rfl⟩
  | [_], _, _, h, _ => by cases h
  | k :: v :: ds, kvs, vs, h, r => by
    unfold pairUp at h
    cases hk : keyD k with
    | none => rw [hk] at h; cases h
    | some key =>
      rw [hk] at h
      cases hp : pairUp ds with
      | none => rw [hp] at h; cases h
      | some kvs' =>
        rw [hp] at h
        cases h
        unfold RepL at r
        obtain ⟨x, w, rfl, r1, r2⟩ := r
        unfold RepL at r2
        obtain ⟨y, w2, rfl, r3, r4⟩ := r2
        obtain ⟨us, rfl, e2, e3⟩ := pairUp_rep hp r4
        have := keyD_kV hk r1
        subst this
        refine ⟨(key, y) :: us, rfl, ?_, by rw [List.map_cons, List.map_cons, e3]⟩
        unfold RepK
        exact ⟨y, us, rfl, r3, e2⟩
theorem merge_nodup : ∀ (more acc : List (Key × V)), ((acc ++ more).map (·.1)).Nodup → mergeK acc more = acc ++ more
  | [], acc, _ => by rw [List.append_nil]; rfl
  | p :: r, acc, h => by
    have hp : (acc.any fun kv => decide (kv.1 = p.1)) = false := by
      cases q : acc.any fun kv => decide (kv.1 = p.1) with
      | false => rfl
      | true =>
        exfalso
        obtain ⟨z, hz, e⟩ := List.any_eq_true.mp q
        have e' := of_decide_eq_true e
        rw [List.map_append, List.map_cons, List.nodup_append] at h
        exact h.2.2 _ (List.mem_map_of_mem hz) _ List.mem_cons_self e'
    have e1 : putK acc p.1 p.2 = acc ++ [p] := by
      unfold putK
      rw [hp]
      rfl
    have e2 : mergeK acc (p :: r) = mergeK (putK acc p.1 p.2) r := rfl
    rw [e2, e1, merge_nodup r (acc ++ [p]) (by rw [List.append_assoc]; exact h), List.append_assoc]
    rfl
theorem tE_dic {G : Gam} {es : List E} (he : evenL es = true) : tE K W (fun ρ κ => (evL G es ρ κ).bind fun ds κ => opDic ds κ) σ H Q → tDisp (trsOf K W G es) σ H Q := by
  rintro ⟨B, α, F, κ, ρ, S, E, q⟩ p hp
  dsimp only at q
  have S0 : St K (upd B p (.dK [])) α F κ (upd H p (.dK [])) := (S.alloc hp).hide upd_same (S.fresh hp) (S.noCell hp)
  cases c : evL G es ρ κ with
  | bad => rw [c] at q; exact False.elim q
  | exc cc fs κ1 =>
    refine tP_run es he (Q0 := fun _ _ => False) S0 E ?_ (fun _ _ z => z.elim)
    rw [c] at q ⊢
    have hn := S.fresh_b hp
    exact fun dx us H' α' F' a f S' hx rf => q dx us H' α' F' a f (S'.priv fun a o e => by rw [upd_ne (ne_of_none e hn)]; exact e) hx rf
  | ok ds κ1 =>
    rw [c] at q
    rw [Res.bind_ok] at q
    unfold opDic at q
    cases hu : pairUp ds with
    | none => rw [hu] at q; exact False.elim q
    | some kvs =>
      rw [hu] at q
      dsimp only at q
      by_cases hc : kvs.length ≤ 15 ∧ (kvs.map (·.1)).Nodup
      · rw [if_pos hc] at q
        refine tP_run es he (Q0 := fun vs H' => ∃ α' F', AExt α α' ∧ FExt F F' ∧ St K (upd B p (.dK [])) α' F' κ1 H' ∧ RepL K α' F' ds vs) S0 E ?_ (fun ps H2 ⟨α', F', ha, hf, S', rl⟩ => ?_)
        · rw [c]
          exact fun vs H' α' F' a f S' r => ⟨α', F', a, f, S', r⟩
        · have hd : H2 p = some (.dK []) := S'.prv p _ upd_same
          refine ⟨hd, ?_⟩
          obtain ⟨us, e1, e2, e3⟩ := pairUp_rep hu rl
          have el : us.length = kvs.length := by
            have := congrArg List.length e3
            rw [List.length_map, List.length_map] at this
            exact this
          refine ⟨us, flat_inj e1, by rw [el]; exact hc.1, ?_⟩
          have em : mergeK [] us = us := merge_nodup us [] (by rw [List.nil_append, e3]; exact hc.2)
          rw [em]
          have S2 := S'.store (o' := .dK us)
          have dd := S2.dis p _ upd_same
          have hn := S.fresh_b hp
          have hB : ∀ a o, B a = some o → (upd B p (HO.dK us)) a = some o := fun a o e => by rw [upd_ne (ne_of_none e hn)]; exact e
          refine q _ _ α' (upd F' p (.dK us)) ha (hf.trans (FExt.new dd.1)) ((S2.priv hB).freeze upd_same dd.1 dd.2 hn) ?_
          unfold Rep
          exact ⟨p, us, rfl, .inl upd_same, e2.mono (AExt.refl _) (FExt.new dd.1)⟩
      · rw [if_neg hc] at q
        exact False.elim q
theorem tE_dic0 {G : Gam} : tE K W (fun ρ κ => (evL G [] ρ κ).bind fun ds κ => opDic ds κ) σ H Q → tDNewK σ H Q := by
  rintro ⟨B, α, F, κ, ρ, S, E, q⟩ p hp
  refine q _ _ α (upd F p (.dK [])) (AExt.refl _) (FExt.new (S.fresh hp)) (S.frozen hp) ?_
  unfold Rep
  exact ⟨p, [], rfl, .inl upd_same, by unfold RepK; rfl⟩
/-! ### slices -/
def tPt (b : Bool) (t : TE) : TO := match b with
  | true => tNoPart
  | false => tPart t
theorem opSlice_nx {x : D} {lo hi : Option Int} {κ : Store} : NoExc (opSlice x lo hi κ) := by
  intro c fs κ' h
  unfold opSlice at h
  split at h <;> first | (cases h; done) | (split at h <;> cases h)
theorem cut_rep {α : List Addr} {F : Hp} {xs : List D} {vs : List V} {lo hi : Option Int} (r : RepL K α F xs vs) : RepL K α F (cutD xs lo hi) (cutV vs lo hi) := by
  unfold cutD cutV
  rw [r.length]
  exact (r.drop _).take _
def r3S (K : PySem.W.Frag) : V → Option Int → Option Int → Hp → VK → Prop := fun x lo hi H Q => rSlL K x lo hi H Q ∨ (rSlT K x lo hi H Q ∨ C8.rSlX x lo hi H Q)
theorem ok_slice {X : Cx} : SlR X (r3S X.K) := sl_list.or (sl_tup.or C8.sl_txt)
theorem tE_slice {ma ml mh : Env' → Store → Res D} {b1 b2 : Bool} : tE K W (fun ρ κ => (ma ρ κ).bind fun x κ => (if b1 = true then .ok none κ else (ml ρ κ).bind fun l κ => opPart l κ).bind fun l κ => (if b2 = true then .ok none κ else (mh ρ κ).bind fun h κ => opPart h κ).bind fun h κ => opSlice x l h κ) σ H Q →
    tSl (r3S K) (tE K W ma) (tPt b1 (tE K W ml)) (tPt b2 (tE K W mh)) σ H Q := by
  rintro ⟨B, α, F, κ, ρ, S, E, q⟩
  refine tE_seq S E q fun d κ1 v H1 α1 F1 e01 a1 f1 S1 E1 r1 q1 => ?_
  have fin : ∀ {lo hi : Option Int} {κ3 : Store} {H3 : Hp} {α3 : List Addr} {F3 : Hp}, I3.St K B α3 F3 κ3 H3 → Rep K α3 F3 d v → Post K B W σ α3 F3 Q (opSlice d lo hi κ3) → r3S K v lo hi H3 Q := fun {lo hi κ3 H3 α3 F3} S3 r3 q3 => by
    obtain ⟨s1, s2, s3, _, _⟩ := seq_rep S3 r3
    unfold opSlice at q3
    split at q3
    · rename_i xs c
      obtain ⟨a, vs, rfl, sq, rl⟩ := s1 xs c
      refine .inl ⟨a, vs, rfl, sq, fun p hp => ?_⟩
      refine q3 _ _ α3 (upd F3 p (.lst (cutV vs lo hi))) (AExt.refl _) (FExt.new (S3.fresh hp)) (S3.frozen hp) ?_
      unfold Rep
      exact ⟨p, _, rfl, SqL.of upd_same, (cut_rep rl).mono (AExt.refl _) (FExt.new (S3.fresh hp))⟩
    · rename_i xs c
      obtain ⟨a, vs, rfl, sq, rl⟩ := s2 xs c
      split at q3
      · exact False.elim q3
      · rename_i hw
        refine .inr (.inl ⟨a, vs, rfl, sq, by rw [← rl.length]; exact hw, fun p hp => ?_⟩)
        refine q3 _ _ α3 (upd F3 p (.tup (cutV vs lo hi))) (AExt.refl _) (FExt.new (S3.fresh hp)) (S3.frozen hp) ?_
        unfold Rep
        exact ⟨p, _, rfl, SqT.of upd_same, (cut_rep rl).mono (AExt.refl _) (FExt.new (S3.fresh hp))⟩
    · rename_i z c
      have ev := s3 z c
      split at q3
      · rename_i hz
        have hs : sizeLine = 16777216 := sizeLine_eq
        exact .inr (.inr ⟨z, ev, by rw [hs]; exact hz, q3 _ H3 α3 F3 (AExt.refl _) (FExt.refl _) S3 rfl⟩)
      · exact False.elim q3
    · exact False.elim q3
  have hi_ : ∀ {lo : Option Int} {κ2 : Store} {H2 : Hp} {α2 : List Addr} {F2 : Hp}, I3.St K B α2 F2 κ2 H2 → RepE K α2 F2 ρ σ → Rep K α2 F2 d v → Post K B W σ α2 F2 Q ((if b2 = true then .ok none κ2 else (mh ρ κ2).bind fun h κ => opPart h κ).bind fun h κ => opSlice d lo h κ) → tPt b2 (tE K W mh) σ H2 fun u H3 => r3S K v lo u H3 Q := fun {lo κ2 H2 α2 F2} S2 E2 r2 q2 => by
    cases b2 with
    | true => exact fin S2 r2 q2
    | false =>
      rw [if_neg (by decide), Res.bind_assoc] at q2
      refine tE_seq S2 E2 q2 fun d3 κ3 v3 H3 α3 F3 e03 a3 f3 S3 E3 r3 q3 => ?_
      cases d3 <;> (first | (exact False.elim q3) | skip)
      rename_i i
      exact ⟨i, r3, fin S3 (r2.mono a3 f3) q3⟩
  cases b1 with
  | true => exact hi_ S1 E1 r1 q1
  | false =>
    rw [if_neg (by decide), Res.bind_assoc] at q1
    refine tE_seq S1 E1 q1 fun d2 κ2 v2 H2 α2 F2 e02 a2 f2 S2 E2 r2 q2 => ?_
    cases d2 <;> (first | (exact False.elim q2) | skip)
    rename_i i
    exact ⟨i, r2, hi_ S2 E2 (r1.mono a2 f2) q2⟩
/-- str(x) of texts and numbers -/
def rStrA : List V → Hp → VK → Prop := fun xs H Q => (∃ i : Int, xs = [.int i] ∧ i.natAbs.log2 < 1920 ∧ Q (.str (Str.ofString (toString i))) H) ∨ ∃ a, xs = [.str a] ∧ Q (.str a) H
theorem str_sc {B : Hp} {α : List Addr} {F H : Hp} {κ : Store} {Q : VK} {d : D} {v : V} (S : I3.St K B α F κ H) (r : Rep K α F d v) (q : PostP K B α F Q (opF1 .str d κ)) : rStrA [v] H Q := by
  cases d <;> (first | (exact False.elim q) | skip)
  · rename_i i
    obtain rfl := r
    unfold opF1 at q
    dsimp only at q
    by_cases h : -big < i ∧ i < big
    · rw [if_pos h] at q
      refine .inl ⟨i, rfl, ?_, q _ H α F (AExt.refl _) (FExt.refl _) S rfl⟩
      by_cases h0 : i.natAbs = 0
      · rw [h0]
        decide
      · have hb := big_lt h.1 h.2
        exact Nat.lt_of_lt_of_le ((Nat.log2_lt h0).mpr hb) (by decide)
    · rw [if_neg h] at q
      exact False.elim q
  · obtain rfl := r
    exact .inr ⟨_, rfl, q _ H α F (AExt.refl _) (FExt.refl _) S rfl⟩
theorem call_strA {X : Cx} : CallR X (.type "str") rStrA := by
  intro pins s σ H xs us Q I rs h
  rcases h with h | h
  · exact call_str_int pins s σ H xs us Q I rs h
  · exact SkE.call_str_str pins s σ H xs us Q I rs h
theorem tE_str {ma : Env' → Store → Res D} : tE K W (fun ρ κ => (ma ρ κ).bind fun x κ => opF1 .str x κ) σ H Q → tCB rStrA (tCons (tE K W ma) tNil) σ H Q := by
  rintro ⟨B, α, F, κ, ρ, S, E, q⟩
  refine tE_seq S E q fun d1 κ1 v1 H1 α1 F1 e01 a1 f1 S1 E1 r1 q1 => ?_
  exact str_sc S1 r1 (q1.p opF1_nx)
theorem log_ok {i : Int} (h : -big < i ∧ i < big) : i.natAbs.log2 < 1920 := by
  by_cases h0 : i.natAbs = 0
  · rw [h0]
    decide
  · have hb := big_lt h.1 h.2
    exact Nat.lt_of_lt_of_le ((Nat.log2_lt h0).mpr hb) (by decide)
theorem tE_fmt {ma : Env' → Store → Res D} : tE K W (fun ρ κ => (ma ρ κ).bind fun x κ => opFmt x κ) σ H Q → tFmt (tE K W ma) σ H Q := by
  rintro ⟨B, α, F, κ, ρ, S, E, q⟩
  refine tE_seq S E q fun d1 κ1 v1 H1 α1 F1 e01 a1 f1 S1 E1 r1 q1 => ?_
  have hs : sizeLine = 16777216 := sizeLine_eq
  cases d1 <;> (first | (exact False.elim q1) | skip)
  · rename_i i
    obtain rfl := r1
    unfold opFmt at q1
    dsimp only at q1
    by_cases h : -big < i ∧ i < big
    · rw [if_pos h] at q1
      exact .inr ⟨i, rfl, log_ok h, q1 _ H1 α1 F1 (AExt.refl _) (FExt.refl _) S1 rfl⟩
    · rw [if_neg h] at q1
      exact False.elim q1
  · rename_i y
    obtain rfl := r1
    unfold opFmt at q1
    dsimp only at q1
    by_cases h : y.length ≤ 16777216
    · rw [if_pos h] at q1
      exact .inl ⟨y, rfl, by rw [hs]; exact h, q1 _ H1 α1 F1 (AExt.refl _) (FExt.refl _) S1 rfl⟩
    · rw [if_neg h] at q1
      exact False.elim q1
theorem tE_joined {G : Gam} : ∀ (es : List E) {acc : Str} {B : Hp} {α : List Addr} {F : Hp} {κ : Store} {ρ : Env'} {H : Hp}, I3.St K B α F κ H → RepE K α F ρ σ → Post K B W σ α F Q (evJ G es acc ρ κ) → tJs (es.map fun e => tE K W (ev G e)) acc σ H (fun out H1 => Q (.str out) H1)
  | [], acc, B, α, F, κ, ρ, H, S, E, q => q _ H α F (AExt.refl _) (FExt.refl _) S rfl
  | e :: es, acc, B, α, F, κ, ρ, H, S, E, q => by
    have hs : sizeLine = 16777216 := sizeLine_eq
    refine tE_seq S E (f := fun x κ => (match x with
      | .str y => if (acc ++ y).length ≤ 16777216 then evJ G es (acc ++ y) ρ κ else .bad
      | _ => .bad)) q fun d1 κ1 v1 H1 α1 F1 e01 a1 f1 S1 E1 r1 q1 => ?_
    cases d1 <;> (first | (exact False.elim q1) | skip)
    rename_i y
    obtain rfl := r1
    dsimp only at q1
    by_cases h : (acc ++ y).length ≤ 16777216
    · rw [if_pos h] at q1
      exact ⟨y, rfl, by rw [hs]; exact h, tE_joined es S1 E1 q1⟩
    · rw [if_neg h] at q1
      exact False.elim q1
/-- x[::-1]: a list, a text -/
def tRevA (K : PySem.W.Frag) (te : TE) : TE := fun σ H Q => te σ H fun x H1 => (∃ a xs, x = .ref a ∧ SqL K H1 a xs ∧ ∀ p, H1 p = none → Q (.ref p) (upd H1 p (.lst xs.reverse))) ∨ ∃ z, x = .str z ∧ z.length ≤ sizeLine ∧ Q (.str (revS z)) H1
theorem rev_picked (z : Str) (u : Tok) : (slicePicked z none none (some (-1, u))).filterMap (z.cps[·]?) = z.cps.toList.reverse := by
  show (PySem.Builtin.Str.strSliceIndices none none (-1) z.length).filterMap (z.cps[·]?) = _
  rw [PyProof.Rows.picked_rev, PySem.W.krv_range, List.filterMap_reverse]
  have e := PySem.W.krv_all z.cps
  show ((List.range z.cps.size).filterMap (z.cps[·]?)).reverse = _
  rw [e]
theorem pe_revA {X : Cx} {e : Expr} {te : TE} {k : Nat} {p1 p2 p3 pos : Pos} (he : PE X e te) : PE X (.Subscript e (.Slice none none (some (.UnaryOp .USub (.Constant (.int 1) k p1) p2)) p3) pos) (tRevA X.K te) := by
  refine ⟨fun pins s σ H Q I h => ?_⟩
  refine Subscript_ (thn (he.run pins s σ H _ I h) fun v s1 ⟨x, H1, I1, r1, q1⟩ => ?_)
  have hst : PO X (some (.UnaryOp .USub (.Constant (.int 1) k p1) p2)) (tPart (tUn (rU fun i => .int (-i)) (tC (.int 1)))) := po_some (pe_un un_neg pe_int)
  refine wpAny_Slice (thn (po_none.run pins s1 σ H1 (fun o H2 => o = none ∧ H2 = H1) I1 ⟨rfl, rfl⟩) fun vl s2 ⟨l, H2, I2, pl, el, e2⟩ => ?_)
  subst el e2
  refine thn (po_none.run pins s2 σ H2 (fun o H3 => o = none ∧ H3 = H2) I2 ⟨rfl, rfl⟩) fun vu s3 ⟨u, H3, I3, pu, eu, e3⟩ => ?_
  subst eu e3
  refine thn (hst.run pins s3 σ H3 (fun o H4 => o = some (-1) ∧ H4 = H3) I3 ⟨1, rfl, -1, rfl, rfl, rfl⟩) fun vs s4 ⟨o, H4, I4, ps, eo, e4⟩ => ?_
  subst eo e4
  have I5 : L2.Inv X pins σ H4 { s4 with heap := s4.heap.push { cls := .type "slice", data := .fields #[vl, vu, vs] } } := I4.kept (t' := s4.toks) fun b ob q => Heap.get?_push_of_some _ q
  rcases q1 with ⟨a, xs, ex, hx, q⟩ | ⟨z, ex, hz, q⟩
  · subst ex
    cases r1
    obtain ⟨its, r, ht, hz⟩ := I5.list hx
    have hlen := r.length
    show wpAny (model X.prog X.w) X.A (subscriptTail e (.Slice none none (some (.UnaryOp .USub (.Constant (.int 1) k p1) p2)) p3) (.ref a) (.ref s4.heap.objs.size)) (EP X pins σ Q) X.xe { s4 with heap := s4.heap.push { cls := .type "slice", data := .fields #[vl, vu, vs] } }
    refine tail_any (ops := [.ref a, .ref s4.heap.objs.size]) ht.isList.typeIs (PySem.slot_list_getitem.lookup) ?_ (by with_unfolding_all rfl)
    refine wpAny_getItem_list_slice ht.isList (Heap.IsSliceOf.new _ vl vu vs) pl pu ps (by decide) ?_ (by rw [List.size_toArray]; omega)
    rw [PySem.W.krv_pick]
    refine ⟨.ref _, _, I5.laid (t' := s4.toks) (o := .lst xs.reverse) (fun b ob q => Heap.get?_push_of_some _ q) (Nat.le_refl _) ?_, rfl, q _ (I5.hok.fresh (Nat.le_refl _))⟩
    exact ⟨by rw [List.length_reverse]; exact hz, _, 0, r.reverse, Heap.get?_push_size _ rfl⟩
  · subst ex
    obtain ⟨t, rfl⟩ := r1
    obtain ⟨l', rfl, e1⟩ := IsPart.raw pl
    obtain ⟨u', rfl, e2⟩ := IsPart.raw pu
    obtain ⟨st, rfl, e3⟩ := IsPart.raw ps
    show wpAny (model X.prog X.w) X.A (subscriptTail e (.Slice none none (some (.UnaryOp .USub (.Constant (.int 1) k p1) p2)) p3) (.str z t) (.ref s4.heap.objs.size)) (EP X pins σ Q) X.xe { s4 with heap := s4.heap.push { cls := .type "slice", data := .fields #[partValue l', partValue u', partValue st] } }
    refine tail_any (ops := [.str z t, .ref s4.heap.objs.size]) (typeIs_str _ _ _) PySem.F.slot_str_getitem.lookup ?_ (by with_unfolding_all rfl)
    cases l' with
    | some _ => cases e1
    | none =>
      cases u' with
      | some _ => cases e2
      | none =>
        cases st with
        | none => cases e3
        | some st =>
          obtain ⟨n, tk⟩ := st
          obtain rfl : n = -1 := Option.some.inj e3
          obtain ⟨os, hos, hcs, hds⟩ := Heap.IsSliceOf.new s4.heap (partValue none) (partValue none) (partValue (some ((-1 : Int), tk)))
          refine wpAny_getItem_str_slice (l := none) (u := none) (st := some (-1, tk)) ⟨os, hos, hcs, hds⟩ rfl ?_
          show Made.post (if (((-1 : Int) == 1) && (slicePicked z none none (some (-1, tk))).length == z.length) = true then Made.val (.str z t) else Made.str ⟨((slicePicked z none none (some (-1, tk))).filterMap (z.cps[·]?)).toArray⟩) (EP X pins σ Q) _
          rw [if_neg (by simp), rev_picked]
          refine ⟨?_, .str _, H4, I5.tok _, ⟨_, rfl⟩, q⟩
          show (z.cps.toList.reverse.toArray).size ≤ _
          rw [List.size_toArray, List.length_reverse, Array.length_toList]
          exact hz
theorem RepL.rev {α : List Addr} {F : Hp} : ∀ {ds : List D} {vs : List V}, RepL K α F ds vs → RepL K α F ds.reverse vs.reverse
  | [], vs, h => by unfold RepL at h; rw [h]; exact RepL.nil
  | d :: ds, vs, h => by
    unfold RepL at h
    obtain ⟨v, r, ev, h1, h2⟩ := h
    rw [ev, List.reverse_cons, List.reverse_cons]
    exact (RepL.rev h2).append (RepL.cons h1 RepL.nil)
theorem tE_rev {ma : Env' → Store → Res D} : tE K W (fun ρ κ => (ma ρ κ).bind fun x κ => opRev x κ) σ H Q → tRevA K (tE K W ma) σ H Q := by
  rintro ⟨B, α, F, κ, ρ, S, E, q⟩
  refine tE_seq S E q fun d κ1 v H1 α1 F1 e01 a1 f1 S1 E1 r1 q1 => ?_
  obtain ⟨s1, s2, s3, _, _⟩ := seq_rep S1 r1
  unfold opRev at q1
  split at q1
  · rename_i xs c
    obtain ⟨a, vs, rfl, sq, rl⟩ := s1 xs c
    refine .inl ⟨a, vs, rfl, sq, fun p hp => ?_⟩
    refine q1 _ _ α1 (upd F1 p (.lst vs.reverse)) (AExt.refl _) (FExt.new (S1.fresh hp)) (S1.frozen hp) ?_
    unfold Rep
    exact ⟨p, _, rfl, SqL.of upd_same, (RepL.rev rl).mono (AExt.refl _) (FExt.new (S1.fresh hp))⟩
  · rename_i z c
    have ev := s3 z c
    split at q1
    · rename_i hz
      have hs : sizeLine = 16777216 := sizeLine_eq
      exact .inr ⟨z, ev, by rw [hs]; exact hz, q1 _ H1 α1 F1 (AExt.refl _) (FExt.refl _) S1 rfl⟩
    · exact False.elim q1
  · exact False.elim q1
/-- an attribute of the caught exception -/
theorem tE_xfld {G : Gam} {i a dx : Nat} {c f : Str} (hg : G.exn = some (a, dx, c)) : tE K W (ev G (.xfld i f)) σ H Q → tXf a (.ref (He.ga K c)) (some dx) (He.ga K c) f (tVar i) σ H Q := by
  rintro ⟨B, α, F, κ, ρ, S, E, q⟩
  have q' : Post K B W σ α F Q (match ρ[i]? with
    | some (some (.exn a dx c fs)) => if G.exn = some (a, dx, c) ∧ G.xa c f = true then (match fs.lookup f with | some d => .ok d κ | none => .bad) else .bad
    | _ => .bad) := q
  split at q'
  · rename_i a2 dx2 c2 fs e
    by_cases hx : G.exn = some (a2, dx2, c2) ∧ G.xa c2 f = true
    · rw [if_pos hx] at q'
      rw [hg] at hx
      obtain ⟨rfl, rfl, rfl⟩ : a = a2 ∧ dx = dx2 ∧ c = c2 := by
        have := hx.1
        simp only [Option.some.injEq, Prod.mk.injEq] at this
        exact this
      obtain ⟨v, e1, r⟩ := E.at_ i _ e
      unfold Rep at r
      obtain ⟨us, rfl, e2, rf⟩ := r
      cases hl : fs.lookup f with
      | none => rw [hl] at q'; exact False.elim q'
      | some d =>
        rw [hl] at q'
        obtain ⟨w, e3, e4⟩ := rf.lookup.1 d hl
        exact ⟨.ref a, e1, rfl, rfl, dx, us, w, rfl, S.sub _ _ e2, e3, q' w H α F (AExt.refl _) (FExt.refl _) S e4⟩
    · rw [if_neg hx] at q'
      exact False.elim q'
  · exact False.elim q'
/-- isinstance(e, c), e the exception that the suite holds, with a dict -/
theorem call_isK {X : Cx} {a D dx : Addr} {oe : Obj} {pn : List (Addr × Obj)} (C : ExcK X.K D) (hz : Zc (.ref D) (some dx) oe) (hf : ∃ vs, oe.data = .fields vs) :
    CallR (X.suite a ((a, oe) :: pn)) (.builtin "isinstance") (fun xs H Q => ∃ (c : V) (cv : Value) (b : Bool) (us : List (Str × V)), xs = [.ref a, c] ∧ (∀ u, RelV c u → u = cv) ∧ PySem.W.kitOne X.K (.ref D) cv = some b ∧ H dx = some (.xd us) ∧ Q (.bl b) H) := by
  intro pins s σ H xs us Q I r h
  obtain ⟨c, cv, b, ws, rfl, hcv, e, hdx, q⟩ := h
  cases r with
  | cons rx rr =>
    cases rr with
    | cons rt rr =>
      cases rr
      cases rx
      have ec := hcv _ rt
      subst ec
      obtain ⟨hget, _⟩ := I.pin (a, oe) (List.mem_append.mpr (.inl List.mem_cons_self))
      obtain ⟨vs, hv⟩ := hf
      have hx : ObjOk X.prog X.w H s.heap dx (.xd ws) := I.hok dx _ hdx
      obtain ⟨mA, hns, hr⟩ := hx
      obtain ⟨od, ho, hl⟩ := lookIn_ns hns
      have J : PySem.W.InstAt s.heap a oe D (some od) := ⟨hget, hz.1, by unfold PySem.W.notCls; rw [hv] <;> rfl, by rw [hz.2]; exact ho⟩
      exact PySem.W.kia_one (PySem.W.kitx_exc C.cl C.ga C.gt C.sub C.at_ C.get C.tk C.mro) I.kIn J e (fun z => nomatch z) fun tk => ⟨.bl b, H, I.kept (t' := tk) fun _ _ z => z, rfl, q⟩
theorem tE_xis {G : Gam} {i a dx : Nat} {c y : Str} {cv : V} {cu : Value} {b : Bool} (hg : G.exn = some (a, dx, c)) (hy : G.kY c y = some b) (hcv : ∀ u, RelV cv u → u = cu) (hk : PySem.W.kitOne K (.ref (He.ga K c)) cu = some b) :
    tE K W (ev G (.xis i y)) σ H Q → tCB (fun xs H Q => ∃ (c' : V) (cv : Value) (b : Bool) (us : List (Str × V)), xs = [.ref a, c'] ∧ (∀ u, RelV c' u → u = cv) ∧ PySem.W.kitOne K (.ref (He.ga K c)) cv = some b ∧ H dx = some (.xd us) ∧ Q (.bl b) H) (tCons (tVar i) (tCons (tC cv) tNil)) σ H Q := by
  rintro ⟨B, α, F, κ, ρ, S, E, q⟩
  have q' : Post K B W σ α F Q (match ρ[i]? with
    | some (some (.exn a dx c _)) => if G.exn = some (a, dx, c) then (match G.kY c y with | some b => .ok (.bl b) κ | none => .bad) else .bad
    | _ => .bad) := q
  split at q'
  · rename_i a2 dx2 c2 fs e
    by_cases hx : G.exn = some (a2, dx2, c2)
    · rw [if_pos hx] at q'
      rw [hg] at hx
      obtain ⟨rfl, rfl, rfl⟩ : a = a2 ∧ dx = dx2 ∧ c = c2 := by
        simp only [Option.some.injEq, Prod.mk.injEq] at hx
        exact hx
      obtain ⟨v, e1, r⟩ := E.at_ i _ e
      unfold Rep at r
      obtain ⟨us, rfl, e2, rf⟩ := r
      rw [hy] at q'
      exact ⟨.ref a, e1, cv, cu, b, us, rfl, hcv, hk, S.sub _ _ e2, q' _ H α F (AExt.refl _) (FExt.refl _) S rfl⟩
    · rw [if_neg hx] at q'
      exact False.elim q'
  · exact False.elim q'
theorem tE_list {ma : Env' → Store → Res D} : tE K W (fun ρ κ => (ma ρ κ).bind fun x κ => opF1 .list x κ) σ H Q →
    tCB (fun xs H Q => ∃ p ys, xs = [.ref p] ∧ (SqL K H p ys ∨ SqT K H p ys) ∧ ∀ l, H l = none → Q (.ref l) (upd H l (.lst ys))) (tCons (tE K W ma) tNil) σ H Q := by
  rintro ⟨B, α, F, κ, ρ, S, E, q⟩
  refine tE_seq S E q fun d1 κ1 v1 H1 α1 F1 e01 a1 f1 S1 E1 r1 q1 => ?_
  obtain ⟨s1, s2, _⟩ := seq_rep S1 r1
  unfold opF1 at q1
  dsimp only at q1
  have fin : ∀ {p : Addr} {vs : List V} {xs : List D}, RepL K α1 F1 xs vs → Post K B W σ α1 F1 Q (.ok (.lst xs) κ1) → ∀ l, H1 l = none → Q (.ref l) (upd H1 l (.lst vs)) := fun {p vs xs} rl q2 l hl => by
    refine q2 _ _ α1 (upd F1 l (.lst vs)) (AExt.refl _) (FExt.new (S1.fresh hl)) (S1.frozen hl) ?_
    unfold Rep
    exact ⟨l, vs, rfl, SqL.of upd_same, rl.mono (AExt.refl _) (FExt.new (S1.fresh hl))⟩
  split at q1
  · rename_i xs c
    obtain ⟨a, vs, rfl, sq, rl⟩ := s1 xs c
    exact ⟨a, vs, rfl, .inl sq, fin (p := a) rl q1⟩
  · rename_i xs c
    obtain ⟨a, vs, rfl, sq, rl⟩ := s2 xs c
    exact ⟨a, vs, rfl, .inr sq, fin (p := a) rl q1⟩
  · exact False.elim q1
theorem tE_tuple {ma : Env' → Store → Res D} : tE K W (fun ρ κ => (ma ρ κ).bind fun x κ => opF1 .tuple x κ) σ H Q →
    tCB (fun xs H Q => ∃ p ys, xs = [.ref p] ∧ ((SqL K H p ys ∧ ∀ l, H l = none → Q (.ref l) (upd H l (.tup ys))) ∨ (SqT K H p ys ∧ Q (.ref p) H))) (tCons (tE K W ma) tNil) σ H Q := by
  rintro ⟨B, α, F, κ, ρ, S, E, q⟩
  refine tE_seq S E q fun d1 κ1 v1 H1 α1 F1 e01 a1 f1 S1 E1 r1 q1 => ?_
  obtain ⟨s1, s2, _⟩ := seq_rep S1 r1
  unfold opF1 at q1
  dsimp only at q1
  split at q1
  · rename_i xs c
    obtain ⟨a, vs, rfl, sq, rl⟩ := s1 xs c
    refine ⟨a, vs, rfl, .inl ⟨sq, fun l hl => ?_⟩⟩
    refine q1 _ _ α1 (upd F1 l (.tup vs)) (AExt.refl _) (FExt.new (S1.fresh hl)) (S1.frozen hl) ?_
    unfold Rep
    exact ⟨l, vs, rfl, SqT.of upd_same, rl.mono (AExt.refl _) (FExt.new (S1.fresh hl))⟩
  · rename_i xs c
    obtain ⟨a, vs, rfl, sq, rl⟩ := s2 xs c
    refine ⟨a, vs, rfl, .inr ⟨sq, q1 _ H1 α1 F1 (AExt.refl _) (FExt.refl _) S1 ?_⟩⟩
    cases d1 with
    | tup ds =>
      cases c
      exact r1
    | cell i =>
      exfalso
      have c' : liveOr κ1[i]? = .tup xs := c
      cases z : κ1[i]? with
      | none => rw [z] at c'; cases c'
      | some o => rw [z] at c'; cases o <;> cases c'
    | _ => cases c
  · exact False.elim q1
end
/-! ### own ==, own str -/
theorem post_p0 {K : PySem.W.Frag} {B : Hp} {α : List Addr} {F : Hp} {Q : VK} {r : Res D} (h : PostP K B α F Q r.nox) : Post K B (fun c d _ H' => E0 c d H') [] α F Q r := by
  cases r with
  | ok d κ => exact h
  | exc c fs κ => exact False.elim h
  | bad => exact h
theorem nox_nx {r : Res D} : NoExc r.nox := by
  intro c fs κ h
  cases r <;> cases h
section
variable {X : Cx} {Z : Sta} {k : Nat} {W : WX} {G : Gam}
/-- a def is called from within built-ins: it raises nothing -/
theorem run_low {A' : Around} {j : Nat} {f : Addr} {fd : FuncData} {ps : List Str} {m : List D → Store → Res D} {pins : List (Addr × Obj)} {σ : L2.St} {H : Hp} {s : Shared} {Q : VK} {us : List Value} {vs : List V} {B : Hp} {α : List Addr} {F : Hp} {κ : Store} {ds : List D} {E' : Value → Shared → Prop}
    (Fk : FnOk X.prog X.w X.K X.mg X.base (L2.CX X.prog X.w) j f fd ps (spC X.K ps.length m)) (ar : ArgsOk X.K fd ps m) (hr : Room j A') (e0 : Env0 X.prog X.w X.K X.mg X.base A' X.stack s H) (S : I3.St X.K B α F κ H) (rl : RepL X.K α F ds vs) (rv : Vals vs us) (I : L2.Inv X pins σ H s)
    (q : PostP X.K B α F Q (m ds κ).nox) : wpAny (model X.prog X.w) A' (call (.ref f) us) (EP X pins σ Q) E' s := by
  rcases ar.at_ ds κ with e | ⟨dd, dvs, du, hl, hrr, hv, hb, e⟩
  · rw [e] at q
    exact False.elim q
  · rw [e] at q
    have r2 : Vals (vs ++ dvs) (us ++ du) := rv.append hv
    have hlv : (vs ++ dvs).length = ps.length := by rw [List.length_append, ← rl.length, ← (hrr α F).length, ← List.length_append]; exact hl
    have h : spC X.K ps.length m (vs ++ dvs) H Q E0 := ⟨hlv, B, α, F, κ, ds ++ dd, S, rl.append (hrr α F), post_p0 q⟩
    have hl2 : (us ++ du).length = ps.length := by rw [← r2.length]; exact hlv
    refine wpAny_call (codeAny_mono (Fk.run A' X.stack s H ⟨us, []⟩ (us ++ du) (vs ++ dvs) Q E0 hr e0 (hb s us I.kIn hl2) r2 h) fun r s' hq => ?_)
    cases r with
    | error er => exact False.elim (passL pins σ H s er s' (I.wish fun _ _ => False) hq)
    | ok fl =>
      cases fl with
      | ret u => exact I.after hq
      | next => exact False.elim hq
      | brk => exact False.elim hq
      | cont => exact False.elim hq
end
section
open PySem.W
variable {prog : Program} {w : World} {A : Around} {E : Value → Shared → Prop} {s : Shared} {K : Frag} {x C L f : Addr} {h₀ : Heap} {m : Str → Option Value} {ox : Obj} {od : Option Obj} {b tb : Value}
/-- x != b by the class's own == -/
theorem ne_K {Q : Value → Shared → Prop} (hu : A.units < cLine) (hu1 : A.in1.units < cLine) (X : K.In s.heap) (I : InstAt s.heap x ox C od) (hb : Looks (model prog w) s.heap (typeOf b) tb) (hn : notFirst K C tb = true)
    (hne : findIn K (.ref C) "__ne__" = some (some (.builtin "object.__ne__"))) (hmro : mroIn K C (.type "object") = some true) (hs : findIn K (.ref C) "__eq__" = some (some (.ref f))) (hf : isFn K (.ref f) = true)
    (h : wpAny (model prog w) A.in1 (call (.ref f) [.ref x, b]) (fun v s' => ∃ r, v = .bool r ∧ Q (.bool (!r)) s') E s) : wpAny (model prog w) A (richCompare .NotEq (.ref x) b) Q E s := by
  have one : wpAny (model prog w) A (tryCompare (.ref x) "__ne__" b) (fun r s' => ∃ v, r = some v ∧ Q v s') E s := by
    unfold tryCompare
    have sp : Looks (model prog w) s.heap (specialOf (.ref x) "__ne__") (some (.builtin "object.__ne__")) := I.type.andThen (looks_findIn X hne)
    have iv : Looks (model prog w) s.heap (isInstance (.ref x) (.type "object")) true := I.type.andThen (looks_mroIn X hmro)
    refine wpAny_bind (NtL.csib (args := [b]) sp (PySem.F.cmp_object.ne.bind _) (wpAny_call (codeAny_call_builtin PySem.F.cmp_object.ne.plain PySem.F.cmpEntry_ne (check_slot PySem.F.cmpKind_ne PySem.F.cmpSplit_ne iv (PySem.F.cmpArgs_ne _ _) ?_))))
    unfold Builtin.«object.__ne__»
    refine wpAny_bind (wpAny_pure ?_)
    refine wpAny_bind (wpAny_cRoomFor hu1 ?_)
    refine wpAny_bind (ifBound_K X I hs hf (wpAny_mono h (fun v s' hv => ?_) fun _ _ e => e))
    obtain ⟨r, rfl, hq⟩ := hv
    refine wpAny_bind (wpAny_truthy_bool ?_)
    exact wpAny_pure (wpAny_pure ⟨_, rfl, hq⟩)
  unfold richCompare
  simp only [oneThing_ref]
  refine wpAny_holding (wpAny_bind (wpAny_cRoomFor hu ?_))
  refine wpAny_bind (I.type.here (wpAny_bind (hb.here ?_)))
  split
  · rename_i q
    have e : subIn K tb (.ref C) = some false := by
      rcases Bool.or_eq_true_iff.mp hn with e | e
      · rw [beq_iff_eq.mp e] at q; simp at q
      · exact beq_iff_eq.mp e
    refine wpAny_bind ((looks_subIn X e).here ?_)
    simp only [Bool.false_eq_true, if_false]
    refine wpAny_bind (wpAny_mono one (fun r s' z => ?_) fun _ _ e => e)
    obtain ⟨v, rfl, hq⟩ := z
    exact wpAny_pure hq
  · refine wpAny_bind (wpAny_pure ?_)
    simp only [Bool.false_eq_true, if_false]
    refine wpAny_bind (wpAny_mono one (fun r s' z => ?_) fun _ _ e => e)
    obtain ⟨v, rfl, hq⟩ := z
    exact wpAny_pure hq
end
theorem tyName_mem {d : D} {κ : Store} {n : String} (h : tyName d κ = some n) : n ∈ (["NoneType", "bool", "int", "str", "list", "tuple", "dict"] : List String) := by
  unfold tyName at h
  split at h <;> first | (cases h; done) | (cases h; decide)
section
variable {X : Cx} {Z : Sta} {k : Nat} {W : WX} {G : Gam}
theorem ty_right {pins : List (Addr × Obj)} {σ : L2.St} {H : Hp} {s : Shared} {B : Hp} {α : List Addr} {F : Hp} {κ : Store} {e : D} {y : V} {u : Value} {cn : Str} (I : L2.Inv X pins σ H s) (hq : EqC X.K (He.ga X.K cn)) (S : I3.St X.K B α F κ H) (r : Rep X.K α F e y) (ry : RelV y u) (h : eqTy cn e κ = true) :
    ∃ tb, PySem.W.Looks (model X.prog X.w) s.heap (typeOf u) tb ∧ PySem.W.notFirst X.K (He.ga X.K cn) tb = true := by
  unfold eqTy at h
  cases hi : insOf κ e with
  | some cf =>
    obtain ⟨c', fs⟩ := cf
    rw [hi] at h
    have ec : c' = cn := eq_of_beq h
    subst ec
    obtain ⟨b, dx, us, rfl, eb, _⟩ := ins_rep S r hi
    obtain rfl : u = Value.ref b := ry
    obtain ⟨mA, J, _⟩ := ins_get I.hok eb
    obtain ⟨od, J, _⟩ := J.look
    exact ⟨.ref (He.ga X.K c'), J.type, by simp [PySem.W.notFirst]⟩
  | none =>
    rw [hi] at h
    dsimp only at h
    cases hn : tyName e κ with
    | none => rw [hn] at h; cases h
    | some n =>
      obtain ⟨P, kx, hp, _⟩ := kit_of I ry (ty_rep S r hn)
      exact ⟨_, kx.ty _ _ I.kIn hp, hq.nf n (tyName_mem hn)⟩
theorem opEqo_nx {n : Bool} {x y : D} {κ : Store} : NoExc (opEqo G n x y κ) := by
  intro c fs κ' h
  unfold opEqo at h
  split at h
  · split at h
    · split at h
      · revert h
        cases hr : (G.call _ [x, y] κ).nox with
        | ok d κ1 =>
          intro h
          rw [Res.bind_ok] at h
          split at h <;> cases h
        | exc c1 fs1 κ1 => exact absurd hr (nox_nx _ _ _)
        | bad => intro h; cases h
      · revert h
        cases hr : (G.low _ [x, y] κ).nox with
        | ok d κ1 =>
          intro h
          rw [Res.bind_ok] at h
          split at h <;> cases h
        | exc c1 fs1 κ1 => exact absurd hr (nox_nx _ _ _)
        | bad => intro h; cases h
    · cases h
  · exact opCmp_nx _ _ _ h
theorem ok_eqo (c : Ctx X Z k W G) (hz : Z.hot = false) (n : Bool) : OpR X (compareOp (eqOp n)) (r2S X.K (opEqo G n)) := by
  intro pins s σ H x y v u Q I rx ry h
  obtain ⟨B, α, F, κ, d, e, S, r1, r2, q⟩ := h
  unfold opEqo at q
  cases hi : insOf κ d with
  | none =>
    rw [hi] at q
    cases n with
    | true => exact ok_cmp c.un .ne pins s σ H x y v u Q I rx ry ⟨B, α, F, κ, d, e, S, r1, r2, q⟩
    | false => exact ok_cmp c.un .eq pins s σ H x y v u Q I rx ry ⟨B, α, F, κ, d, e, S, r1, r2, q⟩
  | some cf =>
    obtain ⟨cn, fs⟩ := cf
    rw [hi] at q
    dsimp only at q
    by_cases hc : (G.kE cn = true ∧ G.isM cn "__eq__" = true) ∧ eqTy cn e κ = true
    case neg =>
      rw [if_neg hc] at q
      exact False.elim q
    rw [if_pos hc] at q
    obtain ⟨⟨h1, h2⟩, h3⟩ := hc
    obtain ⟨a, dx, us, rfl, ea, rf⟩ := ins_rep S r1 hi
    obtain rfl : v = Value.ref a := rx
    have hq := c.kE cn h1
    obtain ⟨tb, hb, hn⟩ := ty_right I hq S r2 ry h3
    obtain ⟨c1, g, c2, ⟨fd, ps, hk, Fk, ar⟩, hlo, _⟩ := c.meth cn "__eq__" h2
    obtain ⟨mA, J, _⟩ := ins_get I.hok ea
    obtain ⟨od, J, _⟩ := J.look
    obtain ⟨m, hF⟩ := I.fr
    have hr := c.room hz
    have rl : RepL X.K α F [d, e] [.ref a, y] := RepL.cons r1 (RepL.cons r2 RepL.nil)
    have rv : Vals [V.ref a, y] [Value.ref a, u] := .cons rfl (.cons ry .nil)
    cases n with
    | false =>
      refine PySem.W.cmp_K (op := .Eq) hr.units0 hF I.ok.mod.kin J hb hn c2.at_ c2.fn ?_
      have q2 : PostP X.K B α F (fun z H' => ∃ b, z = .bl b ∧ Q (.bl b) H') (G.call (cn ++ "." ++ "__eq__") [d, e] κ).nox := by
        revert q
        cases (G.call (cn ++ "." ++ "__eq__") [d, e] κ).nox with
        | ok r κ1 =>
          intro q
          rw [Res.bind_ok] at q
          cases r <;> (first | (exact False.elim q) | skip)
          rename_i b
          intro v H' α' F' a' f' S' r'
          obtain rfl := r'
          exact ⟨b, rfl, q _ H' α' F' a' f' S' rfl⟩
        | exc _ _ _ => exact fun q => q
        | bad => exact fun q => q
      refine wpAny_mono (run_low Fk ar hr I.env0 S rl rv I q2) (fun w s' z => ?_) fun _ _ x => x
      obtain ⟨z', H', I', rz, b, rfl, qz⟩ := z
      exact SlX.cmpback rz ⟨.bl b, H', I', rz, qz⟩
    | true =>
      rcases hlo with h00 | ⟨j, hj, ⟨fd', ps', hk', Fk', ar'⟩⟩
      · rw [c.low0 h00] at q
        exact False.elim q
      · have hr' : Room (j + 1) X.A := hj ▸ hr
        have hu1 := hr'.in1.units
        refine ne_K hr.units0 (by omega) I.kIn J hb hn hq.ne hq.mro c2.at_ c2.fn ?_
        have q2 : PostP X.K B α F (fun z H' => ∃ b, z = .bl b ∧ Q (.bl (!b)) H') (G.low (cn ++ "." ++ "__eq__") [d, e] κ).nox := by
          revert q
          cases (G.low (cn ++ "." ++ "__eq__") [d, e] κ).nox with
          | ok r κ1 =>
            intro q
            rw [Res.bind_ok] at q
            cases r <;> (first | (exact False.elim q) | skip)
            rename_i b
            intro v H' α' F' a' f' S' r'
            obtain rfl := r'
            exact ⟨b, rfl, q _ H' α' F' a' f' S' rfl⟩
          | exc _ _ _ => exact fun q => q
          | bad => exact fun q => q
        refine wpAny_mono (run_low Fk' ar' hr'.in1 I.env0.in1 S rl rv I q2) (fun w s' z => ?_) fun _ _ x => x
        obtain ⟨z', H', I', rz, b, rfl, qz⟩ := z
        obtain rfl : w = Value.bool b := rz
        exact ⟨b, rfl, .bl (!b), H', I', rfl, qz⟩
/-- str(x) -/
def rStro (K : PySem.W.Frag) (G : Gam) : List V → Hp → VK → Prop := fun xs H Q => ∃ x, xs = [x] ∧ ∃ B α F κ d, I3.St K B α F κ H ∧ Rep K α F d x ∧ PostP K B α F Q (opStro G d κ)
theorem call_stro (c : Ctx X Z k W G) (hz : Z.hot = false) : CallR X (.type "str") (rStro X.K G) := by
  intro pins s σ H xs us Q I rs h
  obtain ⟨x, rfl, B, α, F, κ, d, S, r1, q⟩ := h
  unfold opStro at q
  cases hi : insOf κ d with
  | none =>
    rw [hi] at q
    exact call_strA pins s σ H _ us Q I rs (str_sc S r1 q)
  | some cf =>
    obtain ⟨cn, fs⟩ := cf
    rw [hi] at q
    dsimp only at q
    by_cases hc : G.isM cn "__str__" = true
    case neg =>
      rw [if_neg hc] at q
      exact False.elim q
    rw [if_pos hc] at q
    obtain ⟨a, dx, us', rfl, ea, rf⟩ := ins_rep S r1 hi
    obtain ⟨u, rfl, ru⟩ := rs.one
    obtain rfl : u = Value.ref a := ru
    obtain ⟨c1, g, c2, _, _, hlo⟩ := c.meth cn "__str__" hc
    obtain ⟨mA, J, _⟩ := ins_get I.hok ea
    obtain ⟨od, J, _⟩ := J.look
    rcases hlo with h00 | ⟨j, hj, ⟨fd', ps', hk', Fk', ar'⟩⟩
    · rw [c.lo20 h00] at q
      exact False.elim q
    · have hr : Room (j + 2) X.A := hj ▸ c.room hz
      have hr2 : Room j X.A.in1.in1 := (show Room (j + 1) X.A.in1 from Room.in1 hr).in1
      have hu2 := hr2.units
      refine PySem.W.kso_call (by omega) I.kIn J c2.at_ c2.fn ?_
      have q2 : PostP X.K B α F (fun z H' => ∃ b, z = .str b ∧ Q (.str b) H') (G.lo2 (cn ++ "." ++ "__str__") [d] κ).nox := by
        revert q
        cases (G.lo2 (cn ++ "." ++ "__str__") [d] κ).nox with
        | ok r κ1 =>
          intro q
          rw [Res.bind_ok] at q
          cases r <;> (first | (exact False.elim q) | skip)
          rename_i b
          intro v H' α' F' a' f' S' r'
          obtain rfl := r'
          exact ⟨b, rfl, q _ H' α' F' a' f' S' rfl⟩
        | exc _ _ _ => exact fun q => q
        | bad => exact fun q => q
      refine wpAny_mono (run_low (us := [.ref a]) (vs := [.ref a]) Fk' ar' hr2 I.env0.in1.in1 S (RepL.cons r1 RepL.nil) (.cons rfl .nil) I q2) (fun w s' z => ?_) fun _ _ x => x
      obtain ⟨z', H', I', rz, b, rfl, qz⟩ := z
      obtain ⟨t, rfl⟩ := rz
      exact ⟨.str b, H', I', ⟨t, rfl⟩, qz⟩
theorem opStro_nx {x : D} {κ : Store} : NoExc (opStro G x κ) := by
  intro c fs κ' h
  unfold opStro at h
  split at h
  · split at h
    · revert h
      cases hr : (G.lo2 _ [x] κ).nox with
      | ok d κ1 =>
        intro h
        rw [Res.bind_ok] at h
        split at h <;> cases h
      | exc c1 fs1 κ1 => exact absurd hr (nox_nx _ _ _)
      | bad => intro h; cases h
    · cases h
  · exact opF1_nx _ _ _ h
end
/-! ### methods of built-in types -/
def BM.ty : BM → String := fun _ => "str"
def BM.id : BM → String
  | .starts => "str.startswith"
  | .split2 => "str.split"
  | .split1 => "str.split"
  | .part => "str.partition"
def rBM (K : PySem.W.Frag) (m : BM) : V → List V → Hp → VK → Prop := fun x xs H Q => ∃ B α F κ d ds, I3.St K B α F κ H ∧ Rep K α F d x ∧ RepL K α F ds xs ∧ PostP K B α F Q (opBM m d ds κ)
theorem rep_strs {K : PySem.W.Frag} {α : List Addr} {F : Hp} : ∀ {ys : List Str}, RepL K α F (ys.map D.str) (ys.map V.str)
  | [] => RepL.nil
  | _ :: _ => RepL.cons rfl rep_strs
theorem new_strs {K : PySem.W.Frag} {B : Hp} {α : List Addr} {F H : Hp} {κ : Store} {Q : VK} {ys : List Str} (S : I3.St K B α F κ H) (q : PostP K B α F Q (.ok (.lst (ys.map D.str)) κ)) : rNewStrs ys H Q := by
  intro p hp
  refine q _ _ α (upd F p (.lst (ys.map V.str))) (AExt.refl _) (FExt.new (S.fresh hp)) (S.frozen hp) ?_
  unfold Rep
  exact ⟨p, ys.map V.str, rfl, SqL.of upd_same, rep_strs⟩
theorem RepL.one {K : PySem.W.Frag} {α : List Addr} {F : Hp} {d : D} {xs : List V} (r : RepL K α F [d] xs) : ∃ x, xs = [x] ∧ Rep K α F d x := by
  unfold RepL at r
  obtain ⟨x, w, rfl, r1, r2⟩ := r
  unfold RepL at r2
  subst r2
  exact ⟨x, rfl, r1⟩
theorem RepL.two {K : PySem.W.Frag} {α : List Addr} {F : Hp} {d e : D} {xs : List V} (r : RepL K α F [d, e] xs) : ∃ x y, xs = [x, y] ∧ Rep K α F d x ∧ Rep K α F e y := by
  unfold RepL at r
  obtain ⟨x, w, rfl, r1, r2⟩ := r
  obtain ⟨y, rfl, r3⟩ := RepL.one r2
  exact ⟨x, y, rfl, r1, r3⟩
theorem mt_bm {X : Cx} (m : BM) : MtR X m.id (rBM X.K m) := by
  intro pins s σ H x xs v us Q I rx rs h
  obtain ⟨B, α, F, κ, d, ds, S, r1, rl, q⟩ := h
  have hz : sizeLine = 16777216 := sizeLine_eq
  unfold opBM at q
  split at q <;> (first | (exact False.elim q) | skip)
  · rename_i z y
    obtain rfl := r1
    obtain ⟨x1, rfl, r2⟩ := RepL.one rl
    obtain rfl := r2
    exact mt_startswith pins s σ H _ _ v us Q I rx rs ⟨z, y, rfl, rfl, q _ H α F (AExt.refl _) (FExt.refl _) S rfl⟩
  · rename_i z y n
    split at q <;> (first | (exact False.elim q) | skip)
    rename_i hc
    obtain rfl := r1
    obtain ⟨x1, x2, rfl, r2, r3⟩ := RepL.two rl
    obtain rfl := r2
    obtain rfl := r3
    exact mt_splitMax pins s σ H _ _ v us Q I rx rs ⟨z, y, n, rfl, rfl, hc.1, hc.2.1.1, hc.2.1.2, by rw [hz]; exact hc.2.2, new_strs S q⟩
theorem opBM_nx {m : BM} {x : D} {ds : List D} {κ : Store} : NoExc (opBM m x ds κ) := by
  intro c fs κ' h
  unfold opBM at h
  split at h <;> first | (cases h; done) | (split at h <;> cases h)
theorem opTy_ok {K : PySem.W.Frag} {B : Hp} {α : List Addr} {F H : Hp} {κ κ' : Store} {m : BM} {d : D} {x : V} {u : Unit} (S : I3.St K B α F κ H) (r : Rep K α F d x) (h : opTy m d κ = .ok u κ') : κ' = κ ∧ tyV K m.ty x H := by
  unfold opTy at h
  split at h <;> (first | (cases h; done) | skip)
  cases h
  obtain rfl := r
  exact ⟨rfl, rfl⟩
theorem opTy_nx {m : BM} {x : D} {κ : Store} {c : Str} {fs : List (Str × D)} {κ' : Store} : opTy m x κ ≠ .exc c fs κ' := by
  intro h
  unfold opTy at h
  split at h <;> cases h
theorem tE_bm {K : PySem.W.Frag} {σ : L2.St} {H : Hp} {Q : VK} {W : WX} {m : BM} {mo : Env' → Store → Res D} {ma : Env' → Store → Res (List D)} :
    tE K W (fun ρ κ => (mo ρ κ).bind fun x κ => (opTy m x κ).bind fun _ κ => (ma ρ κ).bind fun ds κ => opBM m x ds κ) σ H Q → tBM K m.ty (rBM K m) (tE K W mo) (tA K W ma) σ H Q := by
  rintro ⟨B, α, F, κ, ρ, S, E, q⟩
  refine tE_seq S E q fun d1 κ1 v1 H1 α1 F1 e01 a1 f1 S1 E1 r1 q1 => ?_
  cases ht : opTy m d1 κ1 with
  | bad => rw [ht] at q1; exact False.elim q1
  | exc c fs κ' => exact absurd ht opTy_nx
  | ok u κ2 =>
    obtain ⟨rfl, ty⟩ := opTy_ok S1 r1 ht
    rw [ht, Res.bind_ok] at q1
    refine ⟨ty, ?_⟩
    refine tA_seqG S1 E1 (PQ := fun α F r => Post K B W σ α F Q r) q1 Post.mono (fun _ _ _ h => h) (fun h => h) fun ds κ2 vs H2 α2 F2 _ a2 f2 S2 E2 r2 q2 => ?_
    exact ⟨B, α2, F2, κ2, d1, ds, S2, r1.mono a2 f2, r2, q2.p opBM_nx⟩
theorem BM.slot (m : BM) : PySem.Slot m.ty m.nm m.id ∧ typeOf (.builtin m.id) = pure (.type "method_descriptor") ∧ PlainAttrs m.ty := by
  cases m
  · exact ⟨PySem.F.slot_str_startswith, PySem.F.type_str_startswith, PySem.F.plainAttrs_str⟩
  · exact ⟨PySem.F.slot_str_split, PySem.F.type_str_split, PySem.F.plainAttrs_str⟩
  · exact ⟨PySem.F.slot_str_split, PySem.F.type_str_split, PySem.F.plainAttrs_str⟩
  · exact ⟨PySem.F.slot_str_partition, PySem.F.type_str_partition, PySem.F.plainAttrs_str⟩
theorem pe_bmX {X : Cx} {W : WX} {m : BM} {o : Expr} {es : List Expr} {ap pos : Pos} {mo : Env' → Store → Res D} {ma : Env' → Store → Res (List D)} (hb : plainBase o = true) (hl : (ap.endLine == pos.line) = true) (hlen : es.length < 30) (h1 : es.length = m.ar) (ho : PE X o (tE X.K W mo)) (ha : PA X es (tA X.K W ma)) (hs : es.all noStar = true) :
    PE X (.Call (.Attribute o m.nm ap) es [] pos) (tE X.K W (fun ρ κ => (mo ρ κ).bind fun x κ => (opTy m x κ).bind fun _ κ => (ma ρ κ).bind fun ds κ => opBM m x ds κ)) := by
  obtain ⟨s1, s2, s3⟩ := m.slot
  cases es with
  | nil => cases m <;> cases h1
  | cons e es =>
    have hse : noStar e = true ∧ es.all noStar = true := by simpa using hs
    refine pe_imp (pe_bm s3 s1 s2 (mt_bm m) ho ha (base_of hb _) ?_ hl (noStar_each hse.1) (back_all es hse.2).2) fun σ H Q => tE_bm
    rw [(back_all (e :: es) hs).1]
    show (true && true && decide ((e :: es).length + 0 + 0 < 30)) = true
    rw [decide_eq_true (by omega)]
    rfl
theorem tE_stro {X : Cx} {W : WX} {G : Gam} {σ : L2.St} {H : Hp} {Q : VK} {ma : Env' → Store → Res D} : tE X.K W (fun ρ κ => (ma ρ κ).bind fun x κ => opStro G x κ) σ H Q → tCB (rStro X.K G) (tCons (tE X.K W ma) tNil) σ H Q := by
  rintro ⟨B, α, F, κ, ρ, S, E, q⟩
  refine tE_seq S E q fun d1 κ1 v1 H1 α1 F1 e01 a1 f1 S1 E1 r1 q1 => ?_
  exact ⟨v1, rfl, B, α1, F1, κ1, d1, S1, r1, q1.p opStro_nx⟩
theorem bl_of {r : Res D} {f : Bool → Bool} {z : D} {κ' : Store} (h : (r.bind fun r κ => (match r with | .bl b => .ok (.bl (f b)) κ | _ => .bad)) = .ok z κ') : ∃ b, z = .bl b := by
  cases r with
  | ok d κ1 =>
    rw [Res.bind_ok] at h
    cases d <;> first | (cases h; done) | (cases h; exact ⟨_, rfl⟩)
  | exc c fs κ1 => cases h
  | bad => cases h
theorem opEqo_bl {G : Gam} {n : Bool} {x y z : D} {κ κ' : Store} (h : opEqo G n x y κ = .ok z κ') : ∃ b, z = .bl b := by
  unfold opEqo at h
  split at h
  · split at h
    · cases n with
      | false => exact bl_of (f := fun b => b) h
      | true => exact bl_of (f := fun b => !b) h
    · cases h
  · obtain ⟨b, e, _⟩ := opCmp_bl h
    exact ⟨b, e⟩
theorem tT_eqo {K : PySem.W.Frag} {W : WX} {G : Gam} {σ : L2.St} {H : Hp} {Q : Bool → Hp → Prop} {ma mb : Env' → Store → Res D} {n : Bool} :
    tT K W (fun ρ κ => ((ma ρ κ).bind fun x κ => (mb ρ κ).bind fun y κ => opEqo G n x y κ).bind fun x κ => (match truth x κ with | some b => .ok b κ | none => .bad)) σ H Q →
    tTest (tOp (r2S K (opEqo G n)) (tE K W ma) (tE K W mb)) σ H Q := by
  rintro ⟨B, α, F, κ, ρ, S, E, q⟩
  have q0 : PostT K B W σ α F Q ((ma ρ κ).bind fun x κ => (mb ρ κ).bind fun y κ => (opEqo G n x y κ).bind fun x κ => (match truth x κ with | some b => .ok b κ | none => .bad)) := by
    simpa only [Res.bind_assoc] using q
  refine tE_seqG S E (PQ := fun α F r => PostT K B W σ α F Q r) q0 PostT.mono (fun _ _ _ h => h) (fun h => h) fun d1 κ1 v1 H1 α1 F1 _ a1 f1 S1 E1 r1 q1 => ?_
  refine tE_seqG S1 E1 (PQ := fun α F r => PostT K B W σ α F Q r) q1 PostT.mono (fun _ _ _ h => h) (fun h => h) fun d2 κ2 v2 H2 α2 F2 _ a2 f2 S2 E2 r2 q2 => ?_
  refine ⟨B, α2, F2, κ2, d1, d2, S2, r1.mono a2 f2, r2, ?_⟩
  cases c : opEqo G n d1 d2 κ2 with
  | ok z κ3 =>
    obtain ⟨b, rfl⟩ := opEqo_bl c
    rw [c] at q2
    intro v H3 α3 F3 a3 f3 S3 r3
    obtain rfl := r3
    exact ⟨b, rfl, q2 H3 α3 F3 a3 f3 S3⟩
  | exc c' fs κ3 => exact absurd c (opEqo_nx _ _ _)
  | bad => rw [c] at q2; exact q2
end I3

set_option Elab.async false
set_option linter.all false
set_option autoImplicit false
set_option maxRecDepth 100000
set_option maxHeartbeats 8000000
/-! I3l: the checker is right: expressions, all of them. -/
namespace I3
open PySem PySem.Spec PyProof.Rows L2
theorem Ctx.blk {X : Cx} {Z : Sta} {k : Nat} {W : WX} {G : Gam} (c : Ctx X Z k W G) (hz : Z.hot = false) (scope : Scope) (s : Shared) (H : Hp) (C : Addr) (cl : List (Str × Addr)) (fp : List Addr) :
    Ctx (X.blk s H scope (compEnvC scope cl C X.env) fp) (Z.blk scope) k neverW G where
  hN := c.hN
  hsc := by
    show relS scope X.env.scope = relS scope Z.sc
    rw [c.hsc]
  nd := c.nd
  calm := c.calm
  room := c.room
  un := c.un
  tk := takes0
  pass := fun _ => PassesOwn.never
  fn := rfl
  glob := c.glob
  cat := c.cat
  low := fun cc f h => by
    obtain ⟨h0, p, g, h1, hk⟩ := c.low cc f h
    exact ⟨h0, p, g, h1, hk.elim .inl fun ⟨j, hj, ⟨fd, ps, h2, h3, h4⟩⟩ => .inr ⟨j, hj, ⟨fd, ps, h2, h3, h4⟩⟩⟩
  fld := c.fld
  con := c.con
  meth := fun cc m h => by
    obtain ⟨h0, g, h1, ⟨fd, ps, h2, h3, h4⟩, hk, hk2⟩ := c.meth cc m h
    exact ⟨h0, g, h1, ⟨fd, ps, h2, h3, h4⟩, hk.elim .inl fun ⟨j, hj, ⟨fd, ps, h2, h3, h4⟩⟩ => .inr ⟨j, hj, ⟨fd, ps, h2, h3, h4⟩⟩, hk2.elim .inl fun ⟨j, hj, ⟨fd, ps, h2, h3, h4⟩⟩ => .inr ⟨j, hj, ⟨fd, ps, h2, h3, h4⟩⟩⟩
  make := fun cc h => by
    obtain ⟨h0, g, h1, hk⟩ := c.make cc h
    refine ⟨h0, g, h1, hk.elim .inl fun ⟨j, hj, ⟨fd, ps, h2, h3, h4⟩⟩ => .inr ⟨j, hj, ⟨fd, ps, h2, h3, h4⟩⟩⟩
  kC := c.kC
  kI := c.kI
  kB := c.kB
  kO := c.kO
  low0 := c.low0
  lo20 := c.lo20
  kE := c.kE
  xc := fun cc xi h => by
    obtain ⟨h1, h2, h3, g, fd, ps, h4, h5, h6, h7⟩ := c.xc cc xi h
    exact ⟨h1, h2, h3, g, fd, ps, h4, h5, h6, h7⟩
  kX := c.kX
  kN := c.kN
  stk := fun h => by cases h
  kY := c.kY
  xa := c.xa
  exn := fun a dx cc h => by
    have := (c.exn a dx cc h).1
    rw [hz] at this
    cases this
  blt := c.blt
  call := fun f hf => by
    obtain ⟨a, h1, ⟨fd, ps, h2, h3, h4⟩⟩ := c.call f hf
    exact ⟨a, h1, ⟨fd, ps, h2, h3, h4⟩⟩
  scall := fun f hf => by
    obtain ⟨C, p, g, z1, z2, z3, ⟨fd, ps, h2, h3, h4⟩⟩ := c.scall f hf
    exact ⟨C, p, g, z1, z2, z3, ⟨fd, ps, h2, h3, h4⟩⟩
theorem bnd3 {a b c : Bool} (h : (a && b && c) = true) : a = true ∧ b = true ∧ c = true := by
  simp only [Bool.and_eq_true] at h
  exact ⟨h.1.1, h.1.2, h.2⟩
theorem own_map {N : List Str} {own : List Nat} : ((own.map fun i => (slotName N i, i)).map (·.2)) = own := by
  rw [List.map_map]
  exact List.map_id own
theorem blt_f1 : ∀ f : F1, f.ok = true → bootBuiltins (Str.ofString f.nm) = some (.builtin f.nm) ∧ Str.ofString f.nm ∈ bltNames ∧ (Str.ofString f.nm) ≠ ("__name__" : Str) ∧ (Str.ofString f.nm == ("__debug__" : Str)) = false := by
  intro f hf
  cases f <;> first | (cases hf; done) | exact ⟨by decide +kernel, by decide +kernel, by decide +kernel, by decide +kernel⟩
theorem blt_ty : ∀ t : Ty, bootBuiltins (Str.ofString t.nm) = some (.type t.nm) ∧ Str.ofString t.nm ∈ bltNames ∧ (Str.ofString t.nm) ≠ ("__name__" : Str) ∧ (Str.ofString t.nm == ("__debug__" : Str)) = false := by
  intro t
  cases t <;> exact ⟨by decide +kernel, by decide +kernel, by decide +kernel, by decide +kernel⟩
theorem tT_yes {K : PySem.W.Frag} {W : WX} {σ : L2.St} {H : Hp} {Q : Bool → Hp → Prop} : tT K W (fun _ κ => .ok true κ) σ H Q → tYes σ H Q := by
  rintro ⟨B, α, F, κ, ρ, S, E, q⟩
  exact q H α F (AExt.refl _) (FExt.refl _) S
mutual
theorem sE : ∀ (E : E) {X : Cx} {Z : Sta} {k : Nat} {W : WX} {G : Gam} (c : Ctx X Z k W G) (e : Expr), ck Z E e = true → PE X e (tE X.K W (ev G E))
  | .bad, X, Z, k, W, G, c, e, h => pe_bad fun _ _ => rfl
  | .var i, X, Z, k, W, G, c, e, h => by
    cases e <;> (first | (cases h; done) | skip)
    rename_i x p
    unfold ck at h
    obtain ⟨h1, h2, h3⟩ := bnd3 h
    refine pe_imp (pe_var (i := i) (by rw [c.hN]; exact of_decide_eq_true h1) (vis_of c.hsc h2) (nameOk_of h3).1 (nameOk_of h3).2) fun σ H Q => ?_
    rintro ⟨B, α, F, κ, ρ, S, E, q⟩
    have q' : Post X.K B W σ α F Q (match ρ[i]? with | some (some d) => .ok d κ | _ => .bad) := q
    cases e : ρ[i]? with
    | none => rw [e] at q'; exact False.elim q'
    | some o =>
      rw [e] at q'
      cases o with
      | none => exact False.elim q'
      | some d =>
        obtain ⟨v, h4, h5⟩ := E.at_ i d e
        exact ⟨v, h4, q' v H α F (AExt.refl _) (FExt.refl _) S h5⟩
  | .fzv _, X, Z, k, W, G, c, e, h => by cases e <;> cases h
  | .non, X, Z, k, W, G, c, e, h => by
    cases e <;> (first | (cases h; done) | skip)
    rename_i x n p
    cases x <;> (first | (cases h; done) | skip)
    exact pe_imp pe_non fun σ H Q => tE_c fun _ _ => rfl
  | .bl b, X, Z, k, W, G, c, e, h => by
    cases e <;> (first | (cases h; done) | skip)
    rename_i x n p
    cases x <;> (first | (cases h; done) | skip)
    have e : b = _ := eq_of_beq h
    subst e
    exact pe_imp pe_bl fun σ H Q => tE_c fun _ _ => rfl
  | .int i, X, Z, k, W, G, c, e, h => by
    cases e <;> (first | (cases h; done) | skip)
    rename_i x n p
    cases x <;> (first | (cases h; done) | skip)
    have e := of_decide_eq_true h
    subst e
    exact pe_imp pe_int fun σ H Q => tE_c fun _ _ => rfl
  | .str i, X, Z, k, W, G, c, e, h => by
    cases e <;> (first | (cases h; done) | skip)
    rename_i x n p
    cases x <;> (first | (cases h; done) | skip)
    have e := of_decide_eq_true h
    subst e
    exact pe_imp pe_str fun σ H Q => tE_c fun _ _ => rfl
  | .glob y, X, Z, k, W, G, c, e, h => by
    cases e <;> (first | (cases h; done) | skip)
    rename_i x p
    unfold ck at h
    obtain ⟨h1, h2, h3⟩ := bnd3 h
    have e := of_decide_eq_true h1
    subst e
    cases g : G.glob x with
    | none => exact pe_bad fun _ _ => (by show (match G.glob x with | some d => Res.ok d _ | none => .bad) = .bad; rw [g])
    | some d =>
      obtain ⟨u, v, m1, m2, m3⟩ := c.glob x d g
      refine pe_imp (pe_glob (gl_of c.hsc h2) m1 m2 (nameOk_of h3).1) fun σ H Q z => tE_c (W := W) m3 ?_
      obtain ⟨B, α, F, κ, ρ, S, E, q⟩ := z
      refine ⟨B, α, F, κ, ρ, S, E, ?_⟩
      have q' : Post X.K B W σ α F Q (match G.glob x with | some d => .ok d κ | none => .bad) := q
      rw [g] at q'
      exact q'
  | .cat y a, X, Z, k, W, G, c, e, h => by
    cases e <;> (first | (cases h; done) | skip)
    rename_i o f p
    cases o <;> (first | (cases h; done) | skip)
    rename_i x xp
    unfold ck at h
    simp only [Bool.and_eq_true, decide_eq_true_eq] at h
    obtain ⟨⟨⟨h1, h2⟩, h3⟩, h4⟩ := h
    subst h1 h2
    cases g : G.cat x f with
    | none => exact pe_bad fun _ _ => (by show (match G.cat x f with | some d => Res.ok d _ | none => .bad) = .bad; rw [g])
    | some d =>
      obtain ⟨C, u, v, m1, m2, m3, m4⟩ := c.cat x f d g
      refine pe_imp (ClX.pe_cval (pe_glob (v := .ref C) (gl_of c.hsc h3) m1 rfl (nameOk_of h4).1) rfl) fun σ H Q z => ?_
      refine ⟨C, _, v, u, rfl, m2, m3, tE_c (W := W) (σ := σ) m4 ?_⟩
      obtain ⟨B, α, F, κ, ρ, S, E, q⟩ := z
      refine ⟨B, α, F, κ, ρ, S, E, ?_⟩
      have q' : Post X.K B W σ α F Q (match G.cat x f with | some d => .ok d κ | none => .bad) := q
      rw [g] at q'
      exact q'
  | .bin o a b, X, Z, k, W, G, c, e, h => by
    cases e <;> (first | (cases h; done) | skip)
    rename_i a' o' b' p
    unfold ck at h
    obtain ⟨h1, h2, h3⟩ := bnd3 h
    have e := of_decide_eq_true h1
    subst e
    exact pe_imp (pe_op (ok_bin o) (sE a c a' h2) (sE b c b' h3)) fun σ H Q => tE_op fun _ _ _ => opBin_nx
  | .neg a, X, Z, k, W, G, c, e, h => by
    cases e <;> (first | (cases h; done) | skip)
    rename_i o a' p
    cases o <;> (first | (cases h; done) | skip)
    exact pe_imp (pe_un un_neg (sE a c a' h)) fun σ H Q => tE_neg
  | .not a, X, Z, k, W, G, c, e, h => by
    cases e <;> (first | (cases h; done) | skip)
    rename_i o a' p
    cases o <;> (first | (cases h; done) | skip)
    exact pe_imp (pe_not (sE a c a' h)) fun σ H Q => tE_not
  | .cmp o a b, X, Z, k, W, G, c, e, h => by
    cases e <;> (first | (cases h; done) | skip)
    rename_i a' os bs p
    rcases os with _ | ⟨o', _ | ⟨_, _⟩⟩ <;> rcases bs with _ | ⟨b', _ | ⟨_, _⟩⟩ <;> (first | (cases h; done) | skip)
    unfold ck at h
    simp only [Bool.and_eq_true, decide_eq_true_eq] at h
    obtain ⟨⟨⟨h1, h2⟩, h3⟩, h4⟩ := h
    subst h1
    exact pe_imp (pe_cmpR (ok_cmp (by have := c.un; omega) o) (sE a c a' h3) (sE b c b' h4) (notSet_marks h2)) fun σ H Q => tE_op fun _ _ _ => opCmp_nx
  | .cmp2 o o2 a b d, X, Z, k, W, G, c, e, h => by
    cases e <;> (first | (cases h; done) | skip)
    rename_i a' os bs p
    rcases os with _ | ⟨o', _ | ⟨o2', _ | ⟨_, _⟩⟩⟩ <;> rcases bs with _ | ⟨b', _ | ⟨d', _ | ⟨_, _⟩⟩⟩ <;> (first | (cases h; done) | skip)
    unfold ck at h
    simp only [Bool.and_eq_true, decide_eq_true_eq] at h
    obtain ⟨⟨⟨⟨⟨⟨h1, h2⟩, h3⟩, h4⟩, h5⟩, h6⟩, h7⟩ := h
    subst h1 h2
    exact pe_imp (pe_chain (ok_cmp (by have := c.un; omega) o) (ok_cmp (by have := c.un; omega) o2) (sE a c a' h5) (sE b c b' h6) (sE d c d' h7) (notSet_last h3 h4)) fun σ H Q => tE_chain
  | .and a b, X, Z, k, W, G, c, e, h => by
    cases e <;> (first | (cases h; done) | skip)
    rename_i op es p
    cases op <;> rcases es with _ | ⟨a', _ | ⟨b', r⟩⟩ <;> (first | (cases h; done) | skip)
    unfold ck at h
    simp only [Bool.and_eq_true] at h
    exact pe_imp (pe_and (sE a c a' h.1) (sB b true c (b' :: r) p h.2)) fun σ H Q => tE_and
  | .or a b, X, Z, k, W, G, c, e, h => by
    cases e <;> (first | (cases h; done) | skip)
    rename_i op es p
    cases op <;> rcases es with _ | ⟨a', _ | ⟨b', r⟩⟩ <;> (first | (cases h; done) | skip)
    unfold ck at h
    simp only [Bool.and_eq_true] at h
    exact pe_imp (pe_or (sE a c a' h.1) (sB b false c (b' :: r) p h.2)) fun σ H Q => tE_or
  | .one _, X, Z, k, W, G, c, e, h => by cases e <;> cases h
  | .ife t a b, X, Z, k, W, G, c, e, h => by
    cases e <;> (first | (cases h; done) | skip)
    rename_i t' a' b' p
    unfold ck at h
    obtain ⟨h1, h2, h3⟩ := bnd3 h
    exact pe_imp (pe_ifExp (sT t c t' h1) (sE a c a' h2) (sE b c b' h3)) fun σ H Q => tE_ife
  | .tup es, X, Z, k, W, G, c, e, h => by
    cases e <;> (first | (cases h; done) | skip)
    rename_i es' n p
    exact pe_imp (pe_tup (sA es c es' h).1) fun σ H Q => tE_tup
  | .lst es, X, Z, k, W, G, c, e, h => by
    cases e <;> (first | (cases h; done) | skip)
    rename_i es' p
    exact pe_imp (pe_lst (sA es c es' h).1) fun σ H Q => tE_lst
  | .lstC es, X, Z, k, W, G, c, e, h => by
    cases e <;> (first | (cases h; done) | skip)
    rename_i es' p
    exact pe_imp (pe_lst (sA es c es' h).1) fun σ H Q => tE_lstC
  | .sub a i, X, Z, k, W, G, c, e, h => by
    cases e <;> (first | (cases h; done) | skip)
    rename_i a' i' p
    unfold ck at h
    obtain ⟨h1, h2, h3⟩ := bnd3 h
    exact pe_imp (pe_ix (ok_sub (by have := c.un; omega)) (sE a c a' h2) (sE i c i' h3) (plainIx_of h1)) fun σ H Q => tE_op fun _ _ _ => opSub_nx
  | .f1 f a, X, Z, k, W, G, c, e, h => by
    cases e <;> (first | (cases h; done) | skip)
    rename_i fe as kws p
    cases fe <;> (first | (cases h; done) | skip)
    rename_i x px
    rcases as with _ | ⟨a', _ | ⟨_, _⟩⟩ <;> rcases kws with _ | ⟨_, _⟩ <;> (first | (cases h; done) | skip)
    unfold ck at h
    simp only [Bool.and_eq_true, decide_eq_true_eq, Bool.or_eq_true] at h
    obtain ⟨⟨⟨⟨⟨hz, h1⟩, h2⟩, h3⟩, h4⟩, h5⟩ := h
    subst h1
    have ha : PA X [a'] (tCons (tE X.K W (ev G a)) tNil) := pa_cons (sE a c a' h5) pa_nil (noStar_each h4)
    by_cases hok : f.ok = true
    · obtain ⟨b1, b2, b3, b4⟩ := blt_f1 f hok
      exact pe_imp (pe_callB (ok_f1 (c.calm (cold hz)) f hok) (gl_of c.hsc h3) (c.blt _ b2) b1 ha b3 b4 (noStar_each h4) rfl) fun σ H Q => tE_f1 fun _ _ => opF1_nx
    · have ht : f.isT = true := by
        rcases h2 with h2 | h2
        · exact absurd h2 hok
        · exact h2
      cases f <;> (first | (cases ht; done) | skip)
      · obtain ⟨b1, b2, b3, b4⟩ := blt_ty .int
        exact pe_imp (pe_callTy call_intA (gl_of c.hsc h3) (c.blt _ b2) b1 ha b3 b4 (noStar_each h4) rfl) fun σ H Q => tE_int
      · obtain ⟨b1, b2, b3, b4⟩ := blt_ty .str
        exact pe_imp (pe_callTy call_strA (gl_of c.hsc h3) (c.blt _ b2) b1 ha b3 b4 (noStar_each h4) rfl) fun σ H Q => tE_str
      · obtain ⟨b1, b2, b3, b4⟩ := blt_ty .list
        exact pe_imp (pe_callTy call_list_of (gl_of c.hsc h3) (c.blt _ b2) b1 ha b3 b4 (noStar_each h4) rfl) fun σ H Q => tE_list
      · obtain ⟨b1, b2, b3, b4⟩ := blt_ty .tuple
        exact pe_imp (pe_callTy call_tuple_of (gl_of c.hsc h3) (c.blt _ b2) b1 ha b3 b4 (noStar_each h4) rfl) fun σ H Q => tE_tuple
  | .max2 a b, X, Z, k, W, G, c, e, h => by
    cases e <;> (first | (cases h; done) | skip)
    rename_i fe as kws p
    cases fe <;> (first | (cases h; done) | skip)
    rename_i x px
    rcases as with _ | ⟨a', _ | ⟨b', _ | ⟨_, _⟩⟩⟩ <;> rcases kws with _ | ⟨_, _⟩ <;> (first | (cases h; done) | skip)
    unfold ck at h
    simp only [Bool.and_eq_true, decide_eq_true_eq] at h
    obtain ⟨⟨⟨⟨⟨⟨hz, h1⟩, h2⟩, h3⟩, h4⟩, h5⟩, h6⟩ := h
    subst h1
    have ha : PA X [a', b'] (tCons (tE X.K W (ev G a)) (tCons (tE X.K W (ev G b)) tNil)) := pa_cons (sE a c a' h5) (pa_cons (sE b c b' h6) pa_nil (noStar_each h4)) (noStar_each h3)
    exact pe_imp (pe_callB (call_max2 (c.calm (cold hz))) (gl_of c.hsc h2) (c.blt _ (by decide +kernel)) (by decide +kernel) ha (by decide +kernel) (by decide +kernel) (noStar_each h3) (by rw [noStar_each h4]; rfl)) fun σ H Q => tE_mm rfl
  | .min2 a b, X, Z, k, W, G, c, e, h => by
    cases e <;> (first | (cases h; done) | skip)
    rename_i fe as kws p
    cases fe <;> (first | (cases h; done) | skip)
    rename_i x px
    rcases as with _ | ⟨a', _ | ⟨b', _ | ⟨_, _⟩⟩⟩ <;> rcases kws with _ | ⟨_, _⟩ <;> (first | (cases h; done) | skip)
    unfold ck at h
    simp only [Bool.and_eq_true, decide_eq_true_eq] at h
    obtain ⟨⟨⟨⟨⟨⟨hz, h1⟩, h2⟩, h3⟩, h4⟩, h5⟩, h6⟩ := h
    subst h1
    have ha : PA X [a', b'] (tCons (tE X.K W (ev G a)) (tCons (tE X.K W (ev G b)) tNil)) := pa_cons (sE a c a' h5) (pa_cons (sE b c b' h6) pa_nil (noStar_each h4)) (noStar_each h3)
    exact pe_imp (pe_callB (call_min2 (c.calm (cold hz))) (gl_of c.hsc h2) (c.blt _ (by decide +kernel)) (by decide +kernel) ha (by decide +kernel) (by decide +kernel) (noStar_each h3) (by rw [noStar_each h4]; rfl)) fun σ H Q => tE_mm rfl
  | .isin a t, X, Z, k, W, G, c, e, h => by
    cases e <;> (first | (cases h; done) | skip)
    rename_i fe as kws p
    cases fe <;> (first | (cases h; done) | skip)
    rename_i x px
    rcases as with _ | ⟨a', _ | ⟨b', _ | ⟨_, _⟩⟩⟩ <;> rcases kws with _ | ⟨_, _⟩ <;> (first | (cases h; done) | skip)
    all_goals (cases b' <;> (first | (cases h; done) | skip))
    rename_i y py
    unfold ck at h
    simp only [Bool.and_eq_true, decide_eq_true_eq] at h
    obtain ⟨⟨⟨⟨⟨h1, h2⟩, h3⟩, h4⟩, h5⟩, h6⟩ := h
    subst h1 h2
    obtain ⟨b1, b2, b3, b4⟩ := blt_ty t
    have hy : PE X (.Name (Str.ofString t.nm) py) (tC (.ty t.nm)) := pe_bltn (gl_of c.hsc h4) (c.blt _ b2) b1 rfl b3 b4
    have ha : PA X [a', .Name (Str.ofString t.nm) py] (tCons (tE X.K W (ev G a)) (tCons (tC (.ty t.nm)) tNil)) := pa_cons (sE a c a' h6) (pa_cons hy pa_nil rfl) (noStar_each h5)
    exact pe_imp (pe_callB call_isi (gl_of c.hsc h3) (c.blt _ (by decide +kernel)) (by decide +kernel) ha (by decide +kernel) (by decide +kernel) (noStar_each h5) rfl) fun σ H Q => tE_isin c.kI
  | .isown a t, X, Z, k, W, G, c, e, h => by
    cases e <;> (first | (cases h; done) | skip)
    rename_i fe as kws p
    cases fe <;> (first | (cases h; done) | skip)
    rename_i x px
    rcases as with _ | ⟨a', _ | ⟨b', _ | ⟨_, _⟩⟩⟩ <;> rcases kws with _ | ⟨_, _⟩ <;> (first | (cases h; done) | skip)
    all_goals (cases b' <;> (first | (cases h; done) | skip))
    rename_i y py
    unfold ck at h
    simp only [Bool.and_eq_true, decide_eq_true_eq] at h
    obtain ⟨⟨⟨⟨⟨⟨h1, h2⟩, h3⟩, h4⟩, h5⟩, h6⟩, h7⟩ := h
    subst h1 h2
    by_cases hC : G.kC y = true
    · have hy : PE X (.Name y py) (tC (.ref (He.ga X.K y))) := pe_glob (v := .ref _) (gl_of c.hsc h4) (c.kC y hC) rfl (nameOk_of h5).1
      have ha : PA X [a', .Name y py] (tCons (tE X.K W (ev G a)) (tCons (tC (.ref (He.ga X.K y))) tNil)) := pa_cons (sE a c a' h7) (pa_cons hy pa_nil rfl) (noStar_each h6)
      refine pe_imp (pe_callB call_isi (gl_of c.hsc h3) (c.blt _ (by decide +kernel)) (by decide +kernel) ha (by decide +kernel) (by decide +kernel) (noStar_each h6) rfl) fun σ H Q z => tE_isown c.kB c.kO ?_
      obtain ⟨B, α, F, κ, ρ, S, E, q⟩ := z
      refine ⟨B, α, F, κ, ρ, S, E, ?_⟩
      have q' : Post X.K B W σ α F Q (if G.kC y = true then (ev G a ρ κ).bind fun x κ => (match opIsC G y x κ with | some b => .ok (.bl b) κ | none => .bad) else .bad) := q
      rw [if_pos hC] at q'
      exact q'
    · exact pe_bad fun ρ κ => by
        exact if_neg hC
  | .call f es, X, Z, k, W, G, c, e, h => by
    cases e <;> (first | (cases h; done) | skip)
    rename_i fe as kws p
    cases fe <;> (first | (cases h; done) | skip)
    rename_i x px
    rcases kws with _ | ⟨_, _⟩ <;> (first | (cases h; done) | skip)
    unfold ck at h
    simp only [Bool.and_eq_true, decide_eq_true_eq] at h
    obtain ⟨⟨⟨⟨⟨hz, h1⟩, h2⟩, h3⟩, h4⟩, h5⟩ := h
    subst h1
    obtain ⟨ha, hs⟩ := sA es c as h5
    refine pe_fn c (cold hz) h2 h3 h4 ha hs fun e0 ρ κ => ?_
    subst e0
    cases es with
    | nil => rfl
    | cons _ _ => cases h5
  | .scall C m es, X, Z, k, W, G, c, e, h => by
    cases e <;> (first | (cases h; done) | skip)
    rename_i fe as kws p
    cases fe <;> (first | (cases h; done) | skip)
    rename_i oe f ap
    cases oe <;> (first | (cases h; done) | skip)
    rename_i x px
    rcases kws with _ | ⟨_, _⟩ <;> (first | (cases h; done) | skip)
    unfold ck at h
    simp only [Bool.and_eq_true, decide_eq_true_eq] at h
    obtain ⟨⟨⟨⟨⟨⟨⟨⟨hz, h1⟩, h2⟩, h3⟩, h4⟩, h5⟩, h6⟩, h7⟩, h8⟩ := h
    subst h1 h2
    obtain ⟨ha, hs⟩ := sA es c as h8
    refine pe_smeth c (cold hz) h3 h4 h5 h6 h7 ha hs fun e0 ρ κ => ?_
    subst e0
    cases es with
    | nil => rfl
    | cons _ _ => cases h8
  | .join a b, X, Z, k, W, G, c, e, h => by
    cases e <;> (first | (cases h; done) | skip)
    rename_i fe as kws p
    cases fe <;> (first | (cases h; done) | skip)
    rename_i oe f ap
    cases oe <;> (first | (cases h; done) | skip)
    rename_i v zk zp
    cases v <;> (first | (cases h; done) | skip)
    rcases as with _ | ⟨b', _ | ⟨_, _⟩⟩ <;> rcases kws with _ | ⟨_, _⟩ <;> (first | (cases h; done) | skip)
    unfold ck at h
    simp only [Bool.and_eq_true, decide_eq_true_eq] at h
    obtain ⟨⟨⟨⟨h1, h2⟩, h3⟩, h4⟩, h5⟩ := h
    subst h1
    exact pe_imp (pe_join (sE a c _ h4) (sE b c b' h5) (noStar_each h3) rfl h2) fun σ H Q => tE_join
  | .comp t s cs e own, X, Z, k, W, G, c, x, h => by
    cases x <;> (first | (cases h; done) | skip)
    rename_i e' gens scope p
    rcases gens with _ | ⟨⟨tg, it, ifs, n⟩, _ | ⟨_, _⟩⟩ <;> (first | (cases h; done) | skip)
    unfold ck at h
    simp only [Bool.and_eq_true, decide_eq_true_eq] at h
    obtain ⟨⟨⟨⟨⟨⟨⟨⟨hz, h0⟩, h1⟩, h2⟩, h3⟩, h4⟩, h5⟩, h6⟩, h7⟩ := h
    subst h0
    have ht : ∀ i ∈ t.slots, i ∈ own := fun i hi => by
      have := List.all_eq_true.mp h3 i hi
      exact List.contains_iff_mem.mp this
    have key := pe_lc (X := X) (elt := e') (tg := tg) (iter := it) (ifs := ifs) (scope := scope) (own := own.map fun i => (slotName Z.N i, i)) (pos := p) (wi := iS X.K W (evSrc G s)) (g := gOf X.K t) (tt := tT X.K neverW (evC G cs)) (te := tE X.K neverW (ev G e))
      (c.calm (cold hz)) (by rw [c.hN]; exact c.nd) (sSrc s c it tg h5) (blkOk_by (by rw [c.hN, c.hsc]; exact h1))
      (fun s0 H0 C cl fp => pg_of (X := X.blk s0 H0 scope (compEnvC scope cl C X.env) fp) (Z := Z.blk scope) (c.blk (cold hz) scope s0 H0 C cl fp).hN (c.blk (cold hz) scope s0 H0 C cl fp).hsc c.nd c.calm rfl t tg h4)
      (fun s0 H0 C cl fp => sC cs (c.blk (cold hz) scope s0 H0 C cl fp) ifs h6) (fun s0 H0 C cl fp => sE e (c.blk (cold hz) scope s0 H0 C cl fp) e' h7) (notSet_fold h2 X.env)
    rw [own_map] at key
    exact pe_imp key fun σ H Q => tE_comp ht
  | .attr a f, X, Z, k, W, G, c, e, h => by
    cases e <;> (first | (cases h; done) | skip)
    rename_i o f' p
    unfold ck at h
    simp only [Bool.and_eq_true] at h
    obtain ⟨⟨⟨hz, h1⟩, h2⟩, h3⟩ := h
    have e := of_decide_eq_true h1
    subst e
    exact pe_attr c (cold hz) h2 (sE a c o h3)
  | .meth a m es, X, Z, k, W, G, c, e, h => by
    cases e <;> (first | (cases h; done) | skip)
    rename_i fe as kws p
    cases fe <;> (first | (cases h; done) | skip)
    rename_i oe f ap
    rcases kws with _ | ⟨_, _⟩ <;> (first | (cases h; done) | (cases oe <;> cases h; done) | skip)
    unfold ck at h
    simp only [Bool.and_eq_true, decide_eq_true_eq] at h
    obtain ⟨⟨⟨⟨⟨⟨hz, h1⟩, h2⟩, h3⟩, h4⟩, h5⟩, h6⟩ := h
    subst h1
    obtain ⟨ha, hs⟩ := sA es c as h6
    refine pe_mI c (cold hz) h2 h3 h4 (sE a c oe h5) ha hs fun e0 ρ κ => ?_
    subst e0
    cases es with
    | nil => rfl
    | cons _ _ => cases h6
  | .eqo n a b, X, Z, k, W, G, c, e, h => by
    cases e <;> (first | (cases h; done) | skip)
    rename_i a' os bs p
    rcases os with _ | ⟨o', _ | ⟨_, _⟩⟩ <;> rcases bs with _ | ⟨b', _ | ⟨_, _⟩⟩ <;> (first | (cases h; done) | skip)
    unfold ck at h
    simp only [Bool.and_eq_true, decide_eq_true_eq] at h
    obtain ⟨⟨⟨⟨hz, h1⟩, h2⟩, h3⟩, h4⟩ := h
    subst h1
    exact pe_imp (pe_cmpR (ok_eqo c (cold hz) n) (sE a c a' h3) (sE b c b' h4) (notSet_marks h2)) fun σ H Q => tE_op fun _ _ _ => opEqo_nx
  | .stro a, X, Z, k, W, G, c, e, h => by
    cases e <;> (first | (cases h; done) | skip)
    rename_i fe as kws p
    cases fe <;> (first | (cases h; done) | skip)
    rename_i x px
    rcases as with _ | ⟨a', _ | ⟨_, _⟩⟩ <;> rcases kws with _ | ⟨_, _⟩ <;> (first | (cases h; done) | skip)
    unfold ck at h
    simp only [Bool.and_eq_true, decide_eq_true_eq] at h
    obtain ⟨⟨⟨⟨hz, h1⟩, h3⟩, h4⟩, h5⟩ := h
    subst h1
    have ha : PA X [a'] (tCons (tE X.K W (ev G a)) tNil) := pa_cons (sE a c a' h5) pa_nil (noStar_each h4)
    obtain ⟨b1, b2, b3, b4⟩ := blt_ty .str
    exact pe_imp (pe_callTy (call_stro c (cold hz)) (gl_of c.hsc h3) (c.blt _ b2) b1 ha b3 b4 (noStar_each h4) rfl) fun σ H Q => tE_stro
  | .bm m a es, X, Z, k, W, G, c, e, h => by
    cases e <;> (first | (cases h; done) | skip)
    rename_i fe as kws p
    cases fe <;> (first | (cases h; done) | skip)
    rename_i oe f ap
    rcases kws with _ | ⟨_, _⟩ <;> (first | (cases h; done) | (cases oe <;> cases h; done) | skip)
    unfold ck at h
    simp only [Bool.and_eq_true, decide_eq_true_eq] at h
    obtain ⟨⟨⟨⟨⟨⟨⟨hz, h1⟩, h2⟩, h3⟩, h4⟩, h7⟩, h5⟩, h6⟩ := h
    subst h1
    obtain ⟨ha, hs⟩ := sA es c as h6
    exact pe_bmX h2 h3 h4 h7 (sE a c oe h5) ha hs
  | .slice a lo hi, X, Z, k, W, G, c, e, h => by
    cases e <;> (first | (cases h; done) | skip)
    rename_i a' i' p
    cases i' <;> (first | (cases h; done) | skip)
    rename_i lo' hi' st sp
    cases st <;> (first | (cases h; done) | skip)
    unfold ck at h
    obtain ⟨h1, h2, h3⟩ := bnd3 h
    have part : ∀ (w : E) (w' : Option Expr), (match w' with | none => partE w | some e => !partE w && ck Z w e) = true → (∀ e, ck Z w e = true → PE X e (tE X.K W (ev G w))) → PO X w' (tPt (partE w) (tE X.K W (ev G w))) := by
      intro w w' hw hp
      cases w' with
      | none =>
        dsimp only at hw
        rw [hw]
        exact po_none
      | some e =>
        dsimp only at hw
        rw [Bool.and_eq_true, Bool.not_eq_true'] at hw
        rw [hw.1]
        exact po_some (hp e hw.2)
    exact pe_imp (pe_slice ok_slice (sE a c a' h1) (part lo lo' h2 fun e he => sE lo c e he) (part hi hi' h3 fun e he => sE hi c e he)) fun σ H Q => tE_slice
  | .make cc es md, X, Z, k, W, G, c, e, h => by
    cases e <;> (first | (cases h; done) | skip)
    rename_i fe as kws p
    cases fe <;> (first | (cases h; done) | skip)
    rename_i x px
    rcases kws with _ | ⟨_, _⟩ <;> (first | (cases h; done) | skip)
    unfold ck at h
    simp only [Bool.and_eq_true, decide_eq_true_eq] at h
    obtain ⟨⟨⟨⟨hz, h1⟩, h2⟩, h3⟩, h4⟩ := h
    subst h1
    obtain ⟨ha, hs⟩ := sA es c as h4
    refine pe_mk c (cold hz) h2 h3 ha hs fun e0 ρ κ => ?_
    subst e0
    cases es with
    | nil => rfl
    | cons _ _ => cases h4
  | .xfld i f, X, Z, k, W, G, c, e, h => by
    cases e <;> (first | (cases h; done) | skip)
    rename_i o f' p
    cases o <;> (first | (cases h; done) | skip)
    rename_i x px
    unfold ck at h
    simp only [Bool.and_eq_true, decide_eq_true_eq] at h
    obtain ⟨⟨⟨⟨hz, h1⟩, h2⟩, h3⟩, h4⟩ := h
    subst h1
    cases hg : G.exn with
    | none =>
      exact pe_bad fun ρ κ => by
        show (match ρ[i]? with
          | some (some (.exn a dx c fs)) => if G.exn = some (a, dx, c) ∧ G.xa c f' = true then (match fs.lookup f' with | some d => (.ok d κ : Res D) | none => .bad) else .bad
          | _ => .bad) = .bad
        split
        · exact if_neg (fun z => by rw [hg] at z; cases z.1)
        · rfl
    | some g =>
      obtain ⟨a, dx, cc⟩ := g
      obtain ⟨_, X0, oe, pn, eX, hzc, hf⟩ := c.exn a dx cc hg
      by_cases hxa : G.xa cc f' = true
      · obtain ⟨T, hno⟩ := c.xa cc f' hxa
        have hv : PE X (.Name x px) (tVar i) := pe_var (by rw [c.hN]; exact h2) (vis_of c.hsc h3) (nameOk_of h4).1 (nameOk_of h4).2
        subst eX
        exact pe_imp (pe_xf (X := X0) (a := a) (d := some dx) (cls := .ref (He.ga X0.K cc)) T hno hzc hf hv rfl) fun σ H Q => tE_xfld hg
      · exact pe_bad fun ρ κ => by
          show (match ρ[i]? with
            | some (some (.exn a dx c fs)) => if G.exn = some (a, dx, c) ∧ G.xa c f' = true then (match fs.lookup f' with | some d => (.ok d κ : Res D) | none => .bad) else .bad
            | _ => .bad) = .bad
          split
          · refine if_neg (fun z => ?_)
            have z1 := z.1
            rw [hg] at z1
            simp only [Option.some.injEq, Prod.mk.injEq] at z1
            rw [← z1.2.2] at z
            exact hxa z.2
          · rfl
  | .xis i y, X, Z, k, W, G, c, e, h => by
    cases e <;> (first | (cases h; done) | skip)
    rename_i fe as kws p
    cases fe <;> (first | (cases h; done) | skip)
    rename_i x px
    rcases as with _ | ⟨a', _ | ⟨b', _ | ⟨_, _⟩⟩⟩ <;> rcases kws with _ | ⟨_, _⟩ <;> (first | (cases h; done) | (cases a' <;> cases h; done) | skip)
    all_goals (cases a' <;> (first | (cases h; done) | skip))
    all_goals (cases b' <;> (first | (cases h; done) | skip))
    rename_i n pn' z pz
    unfold ck at h
    simp only [Bool.and_eq_true, decide_eq_true_eq] at h
    obtain ⟨⟨⟨⟨⟨⟨⟨⟨hz, h1⟩, h2⟩, h3⟩, h4⟩, h5⟩, h6⟩, h7⟩, h8⟩ := h
    subst h1 h2
    have bad : (∀ a dx cc, G.exn = some (a, dx, cc) → G.kY cc z = none) → PE X (.Call (.Name "isinstance" px) [.Name n pn', .Name z pz] [] p) (tE X.K W (ev G (.xis i z))) := fun hb => pe_bad fun ρ κ => by
      show (match ρ[i]? with
        | some (some (.exn a dx c _)) => if G.exn = some (a, dx, c) then (match G.kY c z with | some b => (.ok (.bl b) κ : Res D) | none => .bad) else .bad
        | _ => .bad) = .bad
      split
      · rename_i a2 dx2 c2 fs _
        by_cases hx : G.exn = some (a2, dx2, c2)
        · rw [if_pos hx, hb a2 dx2 c2 hx]
        · exact if_neg hx
      · rfl
    cases hg : G.exn with
    | none => exact bad fun a dx cc z => by rw [hg] at z; cases z
    | some g =>
      obtain ⟨a, dx, cc⟩ := g
      cases hy : G.kY cc z with
      | none =>
        exact bad fun a2 dx2 c2 z => by
          rw [hg] at z
          simp only [Option.some.injEq, Prod.mk.injEq] at z
          rw [← z.2.2]
          exact hy
      | some b =>
        obtain ⟨_, X0, oe, pn, eX, hzc, hf⟩ := c.exn a dx cc hg
        obtain ⟨cv, hn, hk, T⟩ := c.kY cc z b hy
        have hv : PE X (.Name n pn') (tVar i) := pe_var (by rw [c.hN]; exact h3) (vis_of c.hsc h5) (nameOk_of h6).1 (nameOk_of h6).2
        have hcl : ∃ cV : V, PE X (.Name z pz) (tC cV) ∧ ∀ u, RelV cV u → u = cv := by
          rcases hn with ⟨m1, rfl⟩ | ⟨m1, m2, rfl⟩
          · exact ⟨.ref _, pe_glob (v := .ref _) (gl_of c.hsc h7) m1 rfl (nameOk_of h8).1, fun u r => r⟩
          · subst m2
            exact ⟨.ty "ValueError", pe_bltn (gl_of c.hsc h7) m1 PyProof.Rows.Boot.«ValueError» rfl (by decide) (by decide), fun u r => r⟩
        obtain ⟨cV, hc1, hc2⟩ := hcl
        have ha : PA X [.Name n pn', .Name z pz] (tCons (tVar i) (tCons (tC cV) tNil)) := pa_cons hv (pa_cons hc1 pa_nil rfl) rfl
        have hbl := c.blt "isinstance" (by decide +kernel)
        have hgl := gl_of c.hsc h4
        subst eX
        exact pe_imp (pe_callB (call_isK (X := X0) T hzc hf) hgl hbl (by decide +kernel) ha (by decide +kernel) (by decide +kernel) rfl rfl) fun σ H Q => tE_xis hg hy hc2 hk
  | .rev a, X, Z, k, W, G, c, e, h => by
    cases e <;> (first | (cases h; done) | skip)
    rename_i a' i' p
    cases i' <;> (first | (cases h; done) | skip)
    rename_i lo hi st sp
    cases lo <;> cases hi <;> cases st <;> (first | (cases h; done) | skip)
    rename_i st
    cases st <;> (first | (cases h; done) | skip)
    rename_i op oe opos
    cases op <;> (first | (cases h; done) | skip)
    cases oe <;> (first | (cases h; done) | skip)
    rename_i cv ck' cp
    cases cv <;> (first | (cases h; done) | skip)
    unfold ck at h
    simp only [Bool.and_eq_true, decide_eq_true_eq] at h
    obtain ⟨h1, h2⟩ := h
    subst h1
    exact pe_imp (pe_revA (sE a c a' h2)) fun σ H Q => tE_rev
  | .fmt a, X, Z, k, W, G, c, e, h => by
    cases e <;> (first | (cases h; done) | skip)
    rename_i a' cv sp p
    cases sp <;> (first | (cases h; done) | skip)
    unfold ck at h
    simp only [Bool.and_eq_true, decide_eq_true_eq] at h
    obtain ⟨h1, h2⟩ := h
    subst h1
    exact pe_imp (pe_fmt (sE a c a' h2)) fun σ H Q => tE_fmt
  | .joined es, X, Z, k, W, G, c, e, h => by
    cases e <;> (first | (cases h; done) | skip)
    rename_i es' p
    unfold ck at h
    simp only [Bool.and_eq_true, decide_eq_true_eq] at h
    obtain ⟨h1, h2⟩ := h
    have hj := sJ es c es' h2
    rcases es' with _ | ⟨v1, _ | ⟨v2, r⟩⟩
    · exact absurd h1 (by decide)
    · exact absurd h1 (by show ¬ (2 ≤ 1); decide)
    · exact pe_imp (pe_joined hj) fun σ H Q ⟨B, α, F, κ, ρ, S, E, q⟩ => tE_joined es S E q
  | .dic es, X, Z, k, W, G, c, e, h => by
    cases e <;> (first | (cases h; done) | skip)
    rename_i ks vs p
    unfold ck at h
    simp only [Bool.and_eq_true, decide_eq_true_eq] at h
    obtain ⟨⟨⟨h1, h2⟩, h3⟩, h4⟩ := h
    have hp := sP es c ks vs p h4
    by_cases hk : ks = []
    · subst hk
      cases es with
      | nil =>
        cases vs with
        | nil => exact pe_imp pe_dnewK fun σ H Q => tE_dic0
        | cons _ _ => cases h2
      | cons a r => rcases r with _ | ⟨_, _⟩ <;> cases h4
    · exact pe_imp (pe_disp hp.1 h1 h2 hk h3) fun σ H Q => tE_dic hp.2
theorem sT : ∀ (E : T) {X : Cx} {Z : Sta} {k : Nat} {W : WX} {G : Gam} (c : Ctx X Z k W G) (e : Expr), ckT Z E e = true → PT X e (tT X.K W (evT G E))
  | .e a, X, Z, k, W, G, c, e, h => by
    unfold ckT at h
    simp only [Bool.and_eq_true] at h
    exact pt_plain h.1 (sE a c e h.2)
  | .cmp o a b, X, Z, k, W, G, c, e, h => by
    cases e <;> (first | (cases h; done) | skip)
    rename_i a' os bs p
    rcases os with _ | ⟨o', _ | ⟨_, _⟩⟩ <;> rcases bs with _ | ⟨b', _ | ⟨_, _⟩⟩ <;> (first | (cases h; done) | skip)
    unfold ckT at h
    simp only [Bool.and_eq_true, decide_eq_true_eq] at h
    obtain ⟨⟨⟨h1, h2⟩, h3⟩, h4⟩ := h
    subst h1
    exact pt_imp (pt_cmpR (ok_cmp (by have := c.un; omega) o) (sE a c a' h3) (sE b c b' h4) (notSet_marks h2)) fun σ H Q => tT_cmp
  | .cmp2 o o2 a b d, X, Z, k, W, G, c, e, h => by
    cases e <;> (first | (cases h; done) | skip)
    rename_i a' os bs p
    rcases os with _ | ⟨o', _ | ⟨o2', _ | ⟨_, _⟩⟩⟩ <;> rcases bs with _ | ⟨b', _ | ⟨d', _ | ⟨_, _⟩⟩⟩ <;> (first | (cases h; done) | skip)
    unfold ckT at h
    simp only [Bool.and_eq_true, decide_eq_true_eq] at h
    obtain ⟨⟨⟨⟨⟨⟨h1, h2⟩, h3⟩, h4⟩, h5⟩, h6⟩, h7⟩ := h
    subst h1 h2
    exact pt_imp (pt_chain (ok_cmp (by have := c.un; omega) o) (ok_cmp (by have := c.un; omega) o2) (sE a c a' h5) (sE b c b' h6) (sE d c d' h7) (notSet_last h3 h4)) fun σ H Q => tT_chain
  | .not a, X, Z, k, W, G, c, e, h => by
    cases e <;> (first | (cases h; done) | skip)
    rename_i o a' p
    cases o <;> (first | (cases h; done) | skip)
    exact pt_imp (pt_not (sT a c a' h)) fun σ H Q => tT_not
  | .and a b, X, Z, k, W, G, c, e, h => by
    cases e <;> (first | (cases h; done) | skip)
    rename_i op es p
    cases op <;> rcases es with _ | ⟨a', _ | ⟨b', r⟩⟩ <;> (first | (cases h; done) | skip)
    unfold ckT at h
    simp only [Bool.and_eq_true] at h
    exact pt_imp (PW.pt (pw_and (sT a c a' h.1) (sTB b true c (b' :: r) p h.2))) fun σ H Q => tT_and
  | .or a b, X, Z, k, W, G, c, e, h => by
    cases e <;> (first | (cases h; done) | skip)
    rename_i op es p
    cases op <;> rcases es with _ | ⟨a', _ | ⟨b', r⟩⟩ <;> (first | (cases h; done) | skip)
    unfold ckT at h
    simp only [Bool.and_eq_true] at h
    exact pt_imp (PW.pt (pw_or (sT a c a' h.1) (sTB b false c (b' :: r) p h.2))) fun σ H Q => tT_or
  | .one _, X, Z, k, W, G, c, e, h => by cases e <;> cases h
  | .ife t a b, X, Z, k, W, G, c, e, h => by
    cases e <;> (first | (cases h; done) | skip)
    rename_i t' a' b' p
    unfold ckT at h
    obtain ⟨h1, h2, h3⟩ := bnd3 h
    exact pt_imp (pt_ifExp (sT t c t' h1) (sT a c a' h2) (sT b c b' h3)) fun σ H Q => tT_ife
  | .eqo n a b, X, Z, k, W, G, c, e, h => by
    cases e <;> (first | (cases h; done) | skip)
    rename_i a' os bs p
    rcases os with _ | ⟨o', _ | ⟨_, _⟩⟩ <;> rcases bs with _ | ⟨b', _ | ⟨_, _⟩⟩ <;> (first | (cases h; done) | skip)
    unfold ckT at h
    simp only [Bool.and_eq_true, decide_eq_true_eq] at h
    obtain ⟨⟨⟨⟨hz, h1⟩, h2⟩, h3⟩, h4⟩ := h
    subst h1
    exact pt_imp (pt_cmpR (ok_eqo c (cold hz) n) (sE a c a' h3) (sE b c b' h4) (notSet_marks h2)) fun σ H Q => tT_eqo
theorem sTB : ∀ (E : T) (isAnd : Bool) {X : Cx} {Z : Sta} {k : Nat} {W : WX} {G : Gam} (c : Ctx X Z k W G) (es : List Expr) (p : Pos), ckTB Z isAnd E es = true → PW X (.BoolOp (match isAnd with | true => .And | false => .Or) es p) (tT X.K W (evT G E))
  | .e _, _, X, Z, k, W, G, c, es, p, h => by rcases es with _ | ⟨_, _ | ⟨_, _⟩⟩ <;> cases h
  | .cmp _ _ _, _, X, Z, k, W, G, c, es, p, h => by rcases es with _ | ⟨_, _ | ⟨_, _⟩⟩ <;> cases h
  | .cmp2 _ _ _ _ _, _, X, Z, k, W, G, c, es, p, h => by rcases es with _ | ⟨_, _ | ⟨_, _⟩⟩ <;> cases h
  | .not _, _, X, Z, k, W, G, c, es, p, h => by rcases es with _ | ⟨_, _ | ⟨_, _⟩⟩ <;> cases h
  | .ife _ _ _, _, X, Z, k, W, G, c, es, p, h => by rcases es with _ | ⟨_, _ | ⟨_, _⟩⟩ <;> cases h
  | .eqo _ _ _, _, X, Z, k, W, G, c, es, p, h => by rcases es with _ | ⟨_, _ | ⟨_, _⟩⟩ <;> cases h
  | .one a, isAnd, X, Z, k, W, G, c, es, p, h => by
    rcases es with _ | ⟨a', _ | ⟨_, _⟩⟩ <;> (first | (cases h; done) | skip)
    cases isAnd with
    | true => exact pw_and1 (sT a c a' h)
    | false => exact pw_or1 (sT a c a' h)
  | .and a b, isAnd, X, Z, k, W, G, c, es, p, h => by
    rcases es with _ | ⟨a', _ | ⟨b', r⟩⟩ <;> (first | (cases h; done) | skip)
    unfold ckTB at h
    simp only [Bool.and_eq_true] at h
    obtain ⟨⟨h1, h2⟩, h3⟩ := h
    subst h1
    exact pw_imp (pw_and (sT a c a' h2) (sTB b true c (b' :: r) p h3)) fun σ H Q => tT_and
  | .or a b, isAnd, X, Z, k, W, G, c, es, p, h => by
    rcases es with _ | ⟨a', _ | ⟨b', r⟩⟩ <;> (first | (cases h; done) | skip)
    unfold ckTB at h
    simp only [Bool.and_eq_true, Bool.not_eq_true'] at h
    obtain ⟨⟨h1, h2⟩, h3⟩ := h
    subst h1
    exact pw_imp (pw_or (sT a c a' h2) (sTB b false c (b' :: r) p h3)) fun σ H Q => tT_or
theorem sB : ∀ (E : E) (isAnd : Bool) {X : Cx} {Z : Sta} {k : Nat} {W : WX} {G : Gam} (c : Ctx X Z k W G) (es : List Expr) (p : Pos), ckB Z isAnd E es = true → PE X (.BoolOp (match isAnd with | true => .And | false => .Or) es p) (tE X.K W (ev G E))
  | .one a, isAnd, X, Z, k, W, G, c, es, p, h => by
    rcases es with _ | ⟨a', _ | ⟨_, _⟩⟩ <;> (first | (cases h; done) | skip)
    exact pe_one (sE a c a' h)
  | .and a b, isAnd, X, Z, k, W, G, c, es, p, h => by
    rcases es with _ | ⟨a', _ | ⟨b', r⟩⟩ <;> (first | (cases h; done) | skip)
    unfold ckB at h
    simp only [Bool.and_eq_true] at h
    obtain ⟨⟨h1, h2⟩, h3⟩ := h
    subst h1
    exact pe_imp (pe_and (sE a c a' h2) (sB b true c (b' :: r) p h3)) fun σ H Q => tE_and
  | .or a b, isAnd, X, Z, k, W, G, c, es, p, h => by
    rcases es with _ | ⟨a', _ | ⟨b', r⟩⟩ <;> (first | (cases h; done) | skip)
    unfold ckB at h
    simp only [Bool.and_eq_true, Bool.not_eq_true'] at h
    obtain ⟨⟨h1, h2⟩, h3⟩ := h
    subst h1
    exact pe_imp (pe_or (sE a c a' h2) (sB b false c (b' :: r) p h3)) fun σ H Q => tE_or
  | .bad, _, X, Z, k, W, G, c, es, p, h => by rcases es with _ | ⟨_, _ | ⟨_, _⟩⟩ <;> cases h
  | .var _, _, X, Z, k, W, G, c, es, p, h => by rcases es with _ | ⟨_, _ | ⟨_, _⟩⟩ <;> cases h
  | .fzv _, _, X, Z, k, W, G, c, es, p, h => by rcases es with _ | ⟨_, _ | ⟨_, _⟩⟩ <;> cases h
  | .non, _, X, Z, k, W, G, c, es, p, h => by rcases es with _ | ⟨_, _ | ⟨_, _⟩⟩ <;> cases h
  | .bl _, _, X, Z, k, W, G, c, es, p, h => by rcases es with _ | ⟨_, _ | ⟨_, _⟩⟩ <;> cases h
  | .int _, _, X, Z, k, W, G, c, es, p, h => by rcases es with _ | ⟨_, _ | ⟨_, _⟩⟩ <;> cases h
  | .str _, _, X, Z, k, W, G, c, es, p, h => by rcases es with _ | ⟨_, _ | ⟨_, _⟩⟩ <;> cases h
  | .glob _, _, X, Z, k, W, G, c, es, p, h => by rcases es with _ | ⟨_, _ | ⟨_, _⟩⟩ <;> cases h
  | .cat _ _, _, X, Z, k, W, G, c, es, p, h => by rcases es with _ | ⟨_, _ | ⟨_, _⟩⟩ <;> cases h
  | .bin _ _ _, _, X, Z, k, W, G, c, es, p, h => by rcases es with _ | ⟨_, _ | ⟨_, _⟩⟩ <;> cases h
  | .neg _, _, X, Z, k, W, G, c, es, p, h => by rcases es with _ | ⟨_, _ | ⟨_, _⟩⟩ <;> cases h
  | .not _, _, X, Z, k, W, G, c, es, p, h => by rcases es with _ | ⟨_, _ | ⟨_, _⟩⟩ <;> cases h
  | .cmp _ _ _, _, X, Z, k, W, G, c, es, p, h => by rcases es with _ | ⟨_, _ | ⟨_, _⟩⟩ <;> cases h
  | .cmp2 _ _ _ _ _, _, X, Z, k, W, G, c, es, p, h => by rcases es with _ | ⟨_, _ | ⟨_, _⟩⟩ <;> cases h
  | .ife _ _ _, _, X, Z, k, W, G, c, es, p, h => by rcases es with _ | ⟨_, _ | ⟨_, _⟩⟩ <;> cases h
  | .tup _, _, X, Z, k, W, G, c, es, p, h => by rcases es with _ | ⟨_, _ | ⟨_, _⟩⟩ <;> cases h
  | .lst _, _, X, Z, k, W, G, c, es, p, h => by rcases es with _ | ⟨_, _ | ⟨_, _⟩⟩ <;> cases h
  | .lstC _, _, X, Z, k, W, G, c, es, p, h => by rcases es with _ | ⟨_, _ | ⟨_, _⟩⟩ <;> cases h
  | .sub _ _, _, X, Z, k, W, G, c, es, p, h => by rcases es with _ | ⟨_, _ | ⟨_, _⟩⟩ <;> cases h
  | .f1 _ _, _, X, Z, k, W, G, c, es, p, h => by rcases es with _ | ⟨_, _ | ⟨_, _⟩⟩ <;> cases h
  | .max2 _ _, _, X, Z, k, W, G, c, es, p, h => by rcases es with _ | ⟨_, _ | ⟨_, _⟩⟩ <;> cases h
  | .min2 _ _, _, X, Z, k, W, G, c, es, p, h => by rcases es with _ | ⟨_, _ | ⟨_, _⟩⟩ <;> cases h
  | .isin _ _, _, X, Z, k, W, G, c, es, p, h => by rcases es with _ | ⟨_, _ | ⟨_, _⟩⟩ <;> cases h
  | .isown _ _, _, X, Z, k, W, G, c, es, p, h => by rcases es with _ | ⟨_, _ | ⟨_, _⟩⟩ <;> cases h
  | .call _ _, _, X, Z, k, W, G, c, es, p, h => by rcases es with _ | ⟨_, _ | ⟨_, _⟩⟩ <;> cases h
  | .scall _ _ _, _, X, Z, k, W, G, c, es, p, h => by rcases es with _ | ⟨_, _ | ⟨_, _⟩⟩ <;> cases h
  | .join _ _, _, X, Z, k, W, G, c, es, p, h => by rcases es with _ | ⟨_, _ | ⟨_, _⟩⟩ <;> cases h
  | .comp _ _ _ _ _, _, X, Z, k, W, G, c, es, p, h => by rcases es with _ | ⟨_, _ | ⟨_, _⟩⟩ <;> cases h
  | .attr _ _, _, X, Z, k, W, G, c, es, p, h => by rcases es with _ | ⟨_, _ | ⟨_, _⟩⟩ <;> cases h
  | .dic _, _, X, Z, k, W, G, c, es, p, h => by rcases es with _ | ⟨_, _ | ⟨_, _⟩⟩ <;> cases h
  | .meth _ _ _, _, X, Z, k, W, G, c, es, p, h => by rcases es with _ | ⟨_, _ | ⟨_, _⟩⟩ <;> cases h
  | .make _ _ _, _, X, Z, k, W, G, c, es, p, h => by rcases es with _ | ⟨_, _ | ⟨_, _⟩⟩ <;> cases h
  | .slice _ _ _, _, X, Z, k, W, G, c, es, p, h => by rcases es with _ | ⟨_, _ | ⟨_, _⟩⟩ <;> cases h
  | .xfld _ _, _, X, Z, k, W, G, c, es, p, h => by rcases es with _ | ⟨_, _ | ⟨_, _⟩⟩ <;> cases h
  | .xis _ _, _, X, Z, k, W, G, c, es, p, h => by rcases es with _ | ⟨_, _ | ⟨_, _⟩⟩ <;> cases h
  | .rev _, _, X, Z, k, W, G, c, es, p, h => by rcases es with _ | ⟨_, _ | ⟨_, _⟩⟩ <;> cases h
  | .fmt _, _, X, Z, k, W, G, c, es, p, h => by rcases es with _ | ⟨_, _ | ⟨_, _⟩⟩ <;> cases h
  | .joined _, _, X, Z, k, W, G, c, es, p, h => by rcases es with _ | ⟨_, _ | ⟨_, _⟩⟩ <;> cases h
  | .eqo _ _ _, _, X, Z, k, W, G, c, es, p, h => by rcases es with _ | ⟨_, _ | ⟨_, _⟩⟩ <;> cases h
  | .stro _, _, X, Z, k, W, G, c, es, p, h => by rcases es with _ | ⟨_, _ | ⟨_, _⟩⟩ <;> cases h
  | .bm _ _ _, _, X, Z, k, W, G, c, es, p, h => by rcases es with _ | ⟨_, _ | ⟨_, _⟩⟩ <;> cases h
theorem sJ : ∀ (es : List E) {X : Cx} {Z : Sta} {k : Nat} {W : WX} {G : Gam} (c : Ctx X Z k W G) (es' : List Expr), ckL Z es es' = true → PJ X es' (es.map fun e => tE X.K W (ev G e))
  | [], X, Z, k, W, G, c, es', h => by
    cases es' with
    | nil => exact .nil
    | cons _ _ => cases h
  | e :: es, X, Z, k, W, G, c, es', h => by
    cases es' with
    | nil => cases h
    | cons e' es' =>
      unfold ckL at h
      obtain ⟨h1, h2, h3⟩ := bnd3 h
      exact .cons (sE e c e' h2) (sJ es c es' h3)
theorem sA : ∀ (es : List E) {X : Cx} {Z : Sta} {k : Nat} {W : WX} {G : Gam} (c : Ctx X Z k W G) (es' : List Expr), ckL Z es es' = true → PA X es' (tA X.K W (evL G es)) ∧ es'.all noStar = true
  | [], X, Z, k, W, G, c, es', h => by
    cases es' with
    | nil => exact ⟨pa_imp pa_nil fun σ H Q => tA_nil, rfl⟩
    | cons _ _ => cases h
  | e :: es, X, Z, k, W, G, c, es', h => by
    cases es' with
    | nil => cases h
    | cons e' es' =>
      unfold ckL at h
      obtain ⟨h1, h2, h3⟩ := bnd3 h
      obtain ⟨i1, i2⟩ := sA es c es' h3
      exact ⟨pa_imp (pa_cons (sE e c e' h2) i1 (noStar_each h1)) fun σ H Q => tA_cons, by rw [List.all_cons, h1, i2]; rfl⟩
theorem sP : ∀ (es : List E) {X : Cx} {Z : Sta} {k : Nat} {W : WX} {G : Gam} (c : Ctx X Z k W G) (ks : List (Option Expr)) (vs : List Expr) (p : Pos), ckP Z es ks vs = true → PPs X p ks vs (trsOf X.K W G es) ∧ evenL es = true
  | [], X, Z, k, W, G, c, ks, vs, p, h => by
    cases ks with
    | nil =>
      cases vs with
      | nil => exact ⟨pps_nil, rfl⟩
      | cons _ _ => cases h
    | cons _ _ => cases h
  | [_], X, Z, k, W, G, c, ks, vs, p, h => by cases ks <;> cases h
  | a :: b :: r, X, Z, k, W, G, c, ks, vs, p, h => by
    cases ks with
    | nil => cases h
    | cons k' ks =>
      cases k' with
      | none => cases h
      | some k' =>
        cases vs with
        | nil => cases h
        | cons v' vs =>
          unfold ckP at h
          simp only [Bool.and_eq_true] at h
          obtain ⟨i1, i2⟩ := sP r c ks vs p h.2
          exact ⟨pps_cons (sE a c k' h.1.1) (sE b c v' h.1.2) i1, i2⟩
theorem sC : ∀ (es : List T) {X : Cx} {Z : Sta} {k : Nat} {W : WX} {G : Gam} (c : Ctx X Z k W G) (es' : List Expr), ckC Z es es' = true → PTs X es' (tT X.K W (evC G es))
  | [], X, Z, k, W, G, c, es', h => by
    cases es' with
    | nil => exact ⟨fun pins s σ H Q I h => pts_nil.run pins s σ H Q I (tT_yes h)⟩
    | cons _ _ => cases h
  | [a], X, Z, k, W, G, c, es', h => by
    rcases es' with _ | ⟨a', _ | ⟨_, _⟩⟩ <;> (first | (cases h; done) | skip)
    exact pts_one (sT a c a' h)
  | _ :: _ :: _, X, Z, k, W, G, c, es', h => by rcases es' with _ | ⟨a', _ | ⟨_, _⟩⟩ <;> cases h
theorem sSrc : ∀ (s : Src) {X : Cx} {Z : Sta} {k : Nat} {W : WX} {G : Gam} (c : Ctx X Z k W G) (it tg : Expr), ckSrc Z s it = true → PI X tg it (iS X.K W (evSrc G s))
  | .val e, X, Z, k, W, G, c, it, tg, h => by
    unfold ckSrc at h
    exact pi_imp (pi_seq (sE e c it h)) fun σ H R => iS_val
  | .rng1 a, X, Z, k, W, G, c, e, tg, h => by
    cases e <;> (first | (cases h; done) | skip)
    rename_i fe as kws p
    cases fe <;> (first | (cases h; done) | skip)
    rename_i x px
    rcases as with _ | ⟨a', _ | ⟨_, _⟩⟩ <;> rcases kws with _ | ⟨_, _⟩ <;> (first | (cases h; done) | skip)
    unfold ckSrc at h
    simp only [Bool.and_eq_true, decide_eq_true_eq] at h
    obtain ⟨⟨⟨h1, h2⟩, h3⟩, h4⟩ := h
    subst h1
    have ha : PA X [a'] (tCons (tE X.K W (ev G a)) tNil) := pa_cons (sE a c a' h4) pa_nil (noStar_each h3)
    exact pi_imp (pi_range1 (gl_of c.hsc h2) (c.blt _ (by decide +kernel)) ha (noStar_each h3)) fun σ H R => iS_rng1
  | .rng2 a b, X, Z, k, W, G, c, e, tg, h => by
    cases e <;> (first | (cases h; done) | skip)
    rename_i fe as kws p
    cases fe <;> (first | (cases h; done) | skip)
    rename_i x px
    rcases as with _ | ⟨a', _ | ⟨b', _ | ⟨_, _⟩⟩⟩ <;> rcases kws with _ | ⟨_, _⟩ <;> (first | (cases h; done) | skip)
    unfold ckSrc at h
    simp only [Bool.and_eq_true, decide_eq_true_eq] at h
    obtain ⟨⟨⟨⟨⟨h1, h2⟩, h3⟩, h4⟩, h5⟩, h6⟩ := h
    subst h1
    have ha : PA X [a', b'] (tCons (tE X.K W (ev G a)) (tCons (tE X.K W (ev G b)) tNil)) := pa_cons (sE a c a' h5) (pa_cons (sE b c b' h6) pa_nil (noStar_each h4)) (noStar_each h3)
    exact pi_imp (pi_range2 (gl_of c.hsc h2) (c.blt _ (by decide +kernel)) ha (by rw [noStar_each h3, noStar_each h4]; rfl) (by rw [noStar_each h4]; rfl)) fun σ H R => iS_rng2
end
end I3

set_option Elab.async false
set_option linter.all false
set_option autoImplicit false
set_option maxRecDepth 100000
set_option maxHeartbeats 8000000
/-! I3m: the checker is right: statements. -/
namespace I3
open PySem PySem.Spec PyProof.Rows L2

/-! ### the checker -/
/-- no exchange of stores -/
def notLoc (sc : Scope) : Expr → Bool
  | .Name y _ => !(sc.names.lookup y == some NameKind.local)
  | _ => true
def noSwap (sc : Scope) : Expr → Expr → Bool
  | .Name y p, e => notComp e || !(decide (sc.names.lookup y = some .local)) || !(p.line == e.pos.line)
  | .Tuple ts _ _, e => notComp e && (match e with | .Tuple _ _ _ => !(ts.length == 2 || ts.length == 3) || ts.any (notLoc sc) | _ => true)
  | _, _ => false
/-- name = [..] on one line -/
def swapYes (sc : Scope) : Expr → Expr → Bool
  | .Name y p, .ListComp _ _ scope pos => decide (sc.kind = .function) && decide (sc.names.lookup y = some .local) && (p.line == pos.line) && !(scope.names.any fun (n, k) => n == y && (k == .local || k == .cell))
  | _, _ => false
/-- a, b = x, y of two locals -/
def parOk (Z : Sta) (i j : Nat) : List Expr → Expr → Option (Expr × Expr)
  | [.Tuple [.Name x px, .Name y py] _ _], .Tuple [a', b'] _ _ =>
      (match decide (i ≠ j) && decide (x ≠ y) && decide (Z.N[i]? = some x) && decide (Z.N[j]? = some y) && decide (Z.sc.kind = .function) && decide (Z.sc.names.lookup x = some .local) && decide (Z.sc.names.lookup y = some .local) &&
        (px.line == py.line) && noStar a' && noStar b' && !([a', b'].all (foldedForSure 8)) && !([a', b'].all (constantsAlone 8)) with
      | true => some (a', b')
      | false => none)
  | _, _ => none
/-- three of them -/
def par3Ok (Z : Sta) (i j l : Nat) : List Expr → Expr → Option (Expr × Expr × Expr)
  | [.Tuple [.Name x px, .Name y py, .Name z pz] _ _], .Tuple [a', b', c'] _ _ =>
      (match decide (i ≠ j) && decide (i ≠ l) && decide (j ≠ l) && decide (x ≠ y) && decide (x ≠ z) && decide (y ≠ z) && decide (Z.N[i]? = some x) && decide (Z.N[j]? = some y) && decide (Z.N[l]? = some z) &&
        decide (Z.sc.kind = .function) && decide (Z.sc.names.lookup x = some .local) && decide (Z.sc.names.lookup y = some .local) && decide (Z.sc.names.lookup z = some .local) &&
        (px.line == py.line) && (px.line == pz.line) && noStar a' && noStar b' && noStar c' && !([a', b', c'].all (foldedForSure 8)) && !([a', b', c'].all (constantsAlone 8)) with
      | true => some (a', b', c')
      | false => none)
  | _, _ => none
def isDoc : Stmt → Bool
  | .Expr (.Constant (.str _) _ _) _ => true
  | _ => false
/-- a clause's name -/
def hnB (Z : Sta) : Option Nat → Option Str → Bool
  | none, none => true
  | some i, some x => decide (Z.N[i]? = some x) && decide (Z.sc.names.lookup x = some .local)
  | _, _ => false
mutual
def ckS (Z : Sta) : S → Stmt → Bool
  | .bad, _ => true
  | .pass, .Pass _ => true
  | .pass, .Expr (.Constant (.str _) _ _) _ => true
  | .brk, .Break _ => true
  | .cont, .Continue _ => true
  | .asg t e, .Assign [tg] e' _ => ckTg Z t tg && ck Z e e' && (noSwap Z.sc tg e' || swapYes Z.sc tg e')
  | .expr e, .Expr e' _ => notComp e' && ck Z e e'
  | .ret e, .Return (some e') _ => ck Z e e'
  | .retN, .Return none _ => true
  | .ifs c a b, .If c' a' b' _ => ckT Z c c' && ckSs Z a a' && ckSs Z b b'
  | .for_ t s b, .For tg it b' [] _ => !Z.hot && notSet it && ckTg Z t tg && ckSrc Z s it && ckSs Z b b'
  | .setI o i e, .Assign [.Subscript o' i' _] e' _ => plainIx i' && ck Z o o' && ck Z i i' && ck Z e e'
  | .app o e, .Expr (.Call (.Attribute (.Name x xp) m ap) [e'] [] cp) _ => decide (m = ("append" : Str)) && (ap.endLine == cp.line) && noStar e' && ck Z o (.Name x xp) && ck Z e e'
  | .par i j a b, .Assign tgs e' _ => (match parOk Z i j tgs e' with
    | some (a', b') => !Z.hot && ck Z a a' && ck Z b b'
    | none => false)
  | .par3 i j l a b c, .Assign tgs e' _ => (match par3Ok Z i j l tgs e' with
    | some (a', b', c') => !Z.hot && ck Z a a' && ck Z b b' && ck Z c c'
    | none => false)
  | .setA o f e, .Assign [.Attribute o' f' _] e' _ => decide (f' = f) && ck Z o o' && ck Z e e'
  | .setN o i j a b, .Assign [.Tuple [.Subscript o' i' _, .Name x _] _ _] (.Tuple [a', b'] _ _) _ => !Z.hot && plainIx i' && decide (Z.N[j]? = some x) && locB Z.fnB Z.sc x && noStar a' && noStar b' && ck Z o o' && ck Z i i' && ck Z a a' && ck Z b b'
  | .raise c es, .Raise (some (.Call (.Name x _) (e' :: es') [] _)) none _ => !Z.hot && decide (x = c) && glB Z.sc x && nameOk x && ckL Z es (e' :: es')
  | .try_ b c n h, .Try b' [.ExceptHandler (some (.Name x _)) n' (h0 :: h') _] [] [] _ => !Z.hot && Z.top && decide (x = c) && glB Z.sc x && nameOk x && hnB Z n n' && ckSs Z b b' && ckSs Z.heat h (h0 :: h')
  | .aug i e, .AugAssign (.Name x _) .Add e' _ => decide (Z.N[i]? = some x) && locB Z.fnB Z.sc x && ck Z e e'
  | _, _ => false
def ckSs (Z : Sta) : List S → List Stmt → Bool
  | [], [] => true
  | s :: ss, t :: ts => ckS Z s t && ckSs Z ss ts
  | _, _ => false
end

/-! ### readings -/
def PostS (K : PySem.W.Frag) (B : Hp) (W : WX) (α : List Addr) (F : Hp) (D : Ends) : Res Flow → Prop
  | .ok (.next ρ) κ => ∀ σ' H' α' F', AExt α α' → FExt F F' → St K B α' F' κ H' → RepE K α' F' ρ σ' → D.nx σ' H'
  | .ok (.brk ρ) κ => ∀ σ' H' α' F', AExt α α' → FExt F F' → St K B α' F' κ H' → RepE K α' F' ρ σ' → D.bk σ' H'
  | .ok (.cont ρ) κ => ∀ σ' H' α' F', AExt α α' → FExt F F' → St K B α' F' κ H' → RepE K α' F' ρ σ' → D.ct σ' H'
  | .ok (.ret d) κ => ∀ v H' α' F', AExt α α' → FExt F F' → St K B α' F' κ H' → Rep K α' F' d v → D.rt v H'
  | .ok (.exc c fs ρ) κ => ∀ σ' α' F', AExt α α' → FExt F F' → RepE K α' F' ρ σ' → PostX K B W σ' α' F' c fs κ
  | .exc _ _ _ => False
  | .bad => False
def tS (K : PySem.W.Frag) (W : WX) (m : Env' → Store → Res Flow) : TS := fun D σ H => ∃ B α F κ ρ, St K B α F κ H ∧ RepE K α F ρ σ ∧ PostS K B W α F D (m ρ κ)
section
variable {K : PySem.W.Frag} {B : Hp} {W : WX} {σ : L2.St} {H : Hp} {α α1 : List Addr} {F F1 : Hp} {κ : Store} {ρ : Env'} {De : Ends}
theorem PostS.mono {r : Res Flow} (ha : AExt α α1) (hf : FExt F F1) (h : PostS K B W α F De r) : PostS K B W α1 F1 De r := by
  cases r with
  | ok f κ =>
    cases f with
    | next ρ => exact fun σ' H' α' F' a f => h σ' H' α' F' (ha.trans a) (hf.trans f)
    | brk ρ => exact fun σ' H' α' F' a f => h σ' H' α' F' (ha.trans a) (hf.trans f)
    | cont ρ => exact fun σ' H' α' F' a f => h σ' H' α' F' (ha.trans a) (hf.trans f)
    | ret d => exact fun σ' H' α' F' a f => h σ' H' α' F' (ha.trans a) (hf.trans f)
    | exc c fs ρ => exact fun σ' α' F' a f => h σ' α' F' (ha.trans a) (hf.trans f)
  | exc c fs κ => exact h
  | bad => exact h

/-- an expression first -/
theorem sE_seq {m : Env' → Store → Res D} {f : D → Store → Res Flow} {R : VK} (S : St K B α F κ H) (E : RepE K α F ρ σ) (h : PostS K B W α F De ((m ρ κ).bindS ρ f))
    (k : ∀ d κ1 v H1 α1 F1, AExt α α1 → FExt F F1 → St K B α1 F1 κ1 H1 → RepE K α1 F1 ρ σ → Rep K α1 F1 d v → PostS K B W α1 F1 De (f d κ1) → R v H1) : tE K W m σ H R := by
  refine ⟨B, α, F, κ, ρ, S, E, ?_⟩
  cases e : m ρ κ with
  | ok d κ1 =>
    rw [e] at h
    exact fun v H1 α1 F1 a1 f1 S1 r1 => k d κ1 v H1 α1 F1 a1 f1 S1 (E.mono a1 f1) r1 (PostS.mono a1 f1 h)
  | exc c fs κ1 =>
    rw [e] at h
    exact h σ α F (AExt.refl _) (FExt.refl _) E
  | bad =>
    rw [e] at h
    exact False.elim h
theorem sT_seq {m : Env' → Store → Res Bool} {f : Bool → Store → Res Flow} {R : Bool → Hp → Prop} (S : St K B α F κ H) (E : RepE K α F ρ σ) (h : PostS K B W α F De ((m ρ κ).bindS ρ f))
    (k : ∀ b κ1 H1 α1 F1, AExt α α1 → FExt F F1 → St K B α1 F1 κ1 H1 → RepE K α1 F1 ρ σ → PostS K B W α1 F1 De (f b κ1) → R b H1) : tT K W m σ H R := by
  refine ⟨B, α, F, κ, ρ, S, E, ?_⟩
  cases e : m ρ κ with
  | ok d κ1 =>
    rw [e] at h
    exact fun H1 α1 F1 a1 f1 S1 => k d κ1 H1 α1 F1 a1 f1 S1 (E.mono a1 f1) (PostS.mono a1 f1 h)
  | exc c fs κ1 =>
    rw [e] at h
    exact h σ α F (AExt.refl _) (FExt.refl _) E
  | bad =>
    rw [e] at h
    exact False.elim h
theorem s_ret {m : Env' → Store → Res D} : tS K W (fun ρ κ => (m ρ κ).bindS ρ fun x κ => .ok (.ret x) κ) De σ H → tRet (tE K W m) De σ H := by
  rintro ⟨B, α, F, κ, ρ, S, E, q⟩
  exact sE_seq S E q fun d κ1 v H1 α1 F1 a1 f1 S1 E1 r1 q1 => q1 v H1 α1 F1 (AExt.refl _) (FExt.refl _) S1 r1
theorem s_expr {m : Env' → Store → Res D} : tS K W (fun ρ κ => (m ρ κ).bindS ρ fun _ κ => .ok (.next ρ) κ) De σ H → tDrop (tE K W m) De σ H := by
  rintro ⟨B, α, F, κ, ρ, S, E, q⟩
  exact sE_seq S E q fun d κ1 v H1 α1 F1 a1 f1 S1 E1 r1 q1 => q1 σ H1 α1 F1 (AExt.refl _) (FExt.refl _) S1 E1
theorem s_asg {m : Env' → Store → Res D} {t : Tg} : tS K W (fun ρ κ => (m ρ κ).bindS ρ fun x κ => bindR t x ρ κ) De σ H → tAsg (tE K W m) (gOf K t) De σ H := by
  rintro ⟨B, α, F, κ, ρ, S, E, q⟩
  refine sE_seq S E q fun d κ1 v H1 α1 F1 a1 f1 S1 E1 r1 q1 => ?_
  unfold bindR at q1
  cases b : bindT t d ρ with
  | none => rw [b] at q1; exact False.elim q1
  | some ρ' =>
    rw [b] at q1
    exact g_run S1 t d v ρ ρ' σ _ r1 E1 b fun σ' E' => q1 σ' H1 α1 F1 (AExt.refl _) (FExt.refl _) S1 E'
theorem s_if {mc : Env' → Store → Res Bool} {ma mb : Env' → Store → Res Flow} : tS K W (fun ρ κ => (mc ρ κ).bindS ρ fun t κ => (match t with
    | true => ma ρ κ
    | false => mb ρ κ)) De σ H → tIfS (tT K W mc) (tS K W ma) (tS K W mb) De σ H := by
  rintro ⟨B, α, F, κ, ρ, S, E, q⟩
  refine sT_seq S E q fun b κ1 H1 α1 F1 a1 f1 S1 E1 q1 => ?_
  cases b with
  | true =>
    rw [if_pos rfl]
    exact ⟨B, α1, F1, κ1, ρ, S1, E1, q1⟩
  | false =>
    rw [if_neg (by decide)]
    exact ⟨B, α1, F1, κ1, ρ, S1, E1, q1⟩
theorem s_seq {ma mb : Env' → Store → Res Flow} : tS K W (fun ρ κ => (ma ρ κ).bind fun f κ => (match f with
    | .next ρ' => mb ρ' κ
    | f => .ok f κ)) De σ H → tSeq (tS K W ma) (tS K W mb) De σ H := by
  rintro ⟨B, α, F, κ, ρ, S, E, q⟩
  refine ⟨B, α, F, κ, ρ, S, E, ?_⟩
  dsimp only at q
  cases e : ma ρ κ with
  | ok f κ1 =>
    rw [e] at q
    cases f with
    | next ρ' => exact fun σ' H' α' F' a f S' E' => ⟨B, α', F', κ1, ρ', S', E', PostS.mono a f q⟩
    | brk ρ' => exact q
    | cont ρ' => exact q
    | ret d => exact q
    | exc c fs ρ' => exact q
  | exc c fs κ1 => rw [e] at q; exact False.elim q
  | bad => rw [e] at q; exact False.elim q
theorem s_nil : tS K W (fun ρ κ => .ok (.next ρ) κ) De σ H → tNext De σ H := by
  rintro ⟨B, α, F, κ, ρ, S, E, q⟩
  exact q σ H α F (AExt.refl _) (FExt.refl _) S E
theorem s_brk : tS K W (fun ρ κ => .ok (.brk ρ) κ) De σ H → tBreak De σ H := by
  rintro ⟨B, α, F, κ, ρ, S, E, q⟩
  exact q σ H α F (AExt.refl _) (FExt.refl _) S E
theorem s_cont : tS K W (fun ρ κ => .ok (.cont ρ) κ) De σ H → tCont De σ H := by
  rintro ⟨B, α, F, κ, ρ, S, E, q⟩
  exact q σ H α F (AExt.refl _) (FExt.refl _) S E
theorem s_retN : tS K W (fun _ κ => .ok (.ret .non) κ) De σ H → tRetN De σ H := by
  rintro ⟨B, α, F, κ, ρ, S, E, q⟩
  exact q .non H α F (AExt.refl _) (FExt.refl _) S rfl
theorem s_for {ms : Env' → Store → Res Itm} {t : Tg} {mb : Env' → Store → Res Flow} : tS K W (fun ρ κ => (ms ρ κ).bindS ρ fun J κ => forL J (fun d ρ κ => match bindT t d ρ with
      | none => .bad
      | some ρ' => mb ρ' κ) J.len ρ κ) De σ H → tFor (iS K W ms) (gOf K t) (tS K W mb) De σ H := by
  rintro ⟨B, α, F, κ, ρ, S, E, q⟩
  refine ⟨B, α, F, κ, ρ, S, E, ?_⟩
  dsimp only at q
  cases e : ms ρ κ with
  | bad => rw [e] at q; exact False.elim q
  | exc c fs κ1 => rw [e] at q; exact q σ α F (AExt.refl _) (FExt.refl _) E
  | ok J κ1 =>
    rw [e, Res.bindS_ok] at q
    intro T H1 α1 F1 a1 f1 S1 hT
    refine ⟨fun i m σ' H' => m = J.len - i ∧ i ≤ J.len ∧ ∃ α' F' κ' ρ', AExt α1 α' ∧ FExt F1 F' ∧ St K B α' F' κ' H' ∧ RepE K α' F' ρ' σ' ∧ PostS K B W α' F' De (forL J (fun d ρ κ => match bindT t d ρ with
      | none => .bad
      | some ρ' => mb ρ' κ) (J.len - i) ρ' κ'), ⟨J.len, by simp, Nat.zero_le _, α1, F1, κ1, ρ, AExt.refl _, FExt.refl _, S1, E.mono a1 f1, PostS.mono a1 f1 q⟩, ?_⟩
    rintro i m σ' H' ⟨rfl, hi, α', F', κ', ρ', ha, hf, S', E', q'⟩
    by_cases hlt : i < J.len
    · obtain ⟨n, hn⟩ : ∃ n, J.len - i = n + 1 := ⟨J.len - i - 1, by omega⟩
      rw [hn] at q'
      unfold forL at q'
      have hji : J.len - (n + 1) = i := by omega
      rw [hji] at q'
      cases c : J.get i κ' with
      | none => rw [c] at q'; exact False.elim q'
      | some d =>
        rw [c] at q'
        dsimp only at q'
        obtain ⟨go, yl⟩ := hT.go _ α' F' κ' H' i d ha hf S' hlt c
        refine .inr ⟨go, fun σ2 H2 => i + 1 ≤ J.len ∧ ∃ α' F' κ' ρ', AExt α1 α' ∧ FExt F1 F' ∧ St K B α' F' κ' H2 ∧ RepE K α' F' ρ' σ2 ∧ PostS K B W α' F' De (forL J (fun d ρ κ => match bindT t d ρ with
          | none => .bad
          | some ρ' => mb ρ' κ) n ρ' κ'), fun σ2 H2 p => ⟨J.len - (i + 1), by omega, rfl, p.1, by
            have e1 : J.len - (i + 1) = n := by omega
            rw [e1]
            exact p.2⟩, fun x H2 y => ?_⟩
        obtain ⟨F2, f2, S2, r2⟩ := yl x H2 y
        cases b : bindT t d ρ' with
        | none => rw [b] at q'; exact False.elim q'
        | some ρ2 =>
          rw [b] at q'
          dsimp only at q'
          refine g_run S2 t d x ρ' ρ2 σ' _ r2 (E'.mono (AExt.refl _) f2) b fun σ3 E3 => ?_
          refine ⟨B, α', F2, κ', ρ2, S2, E3, ?_⟩
          cases e2 : mb ρ2 κ' with
          | bad => rw [e2] at q'; exact False.elim q'
          | exc c fs κ2 => rw [e2] at q'; exact False.elim q'
          | ok fl κ2 =>
            rw [e2] at q'
            have q2 := PostS.mono (AExt.refl _) f2 q'
            cases fl with
            | next ρ3 => exact fun σ4 H4 α4 F4 a4 f4 S4 E4 => ⟨hlt, α4, F4, κ2, ρ3, ha.trans a4, (hf.trans f2).trans f4, S4, E4, PostS.mono a4 f4 q2⟩
            | cont ρ3 => exact fun σ4 H4 α4 F4 a4 f4 S4 E4 => ⟨hlt, α4, F4, κ2, ρ3, ha.trans a4, (hf.trans f2).trans f4, S4, E4, PostS.mono a4 f4 q2⟩
            | brk ρ3 => exact q2
            | ret d => exact q2
            | exc c fs ρ3 => exact q2
    · have e0 : i = J.len := by omega
      subst e0
      rw [Nat.sub_self] at q'
      unfold forL at q'
      cases c : J.fin κ' with
      | false => rw [c] at q'; exact False.elim q'
      | true =>
        rw [c, if_pos rfl] at q'
        exact .inl ⟨hT.stop _ α' F' κ' H' ha hf S' c, q' σ' H' α' F' (AExt.refl _) (FExt.refl _) S' E'⟩
theorem s_setI {me mo mi : Env' → Store → Res D} : tS K W (fun ρ κ => (me ρ κ).bindS ρ fun v κ => (mo ρ κ).bindS ρ fun x κ => (mi ρ κ).bindS ρ fun y κ => (opSetI x y v κ).bindS ρ fun _ κ => .ok (.next ρ) κ) De σ H →
    tAsg (tE K W me) (gSub (tE K W mo) (tE K W mi) rSetL) De σ H := by
  rintro ⟨B, α, F, κ, ρ, S, E, q⟩
  refine sE_seq S E q fun dv κ1 v H1 α1 F1 a1 f1 S1 E1 r1 q1 => ?_
  refine sE_seq S1 E1 q1 fun dx κ2 x H2 α2 F2 a2 f2 S2 E2 r2 q2 => ?_
  refine sE_seq S2 E2 q2 fun dy κ3 y H3 α3 F3 a3 f3 S3 E3 r3 q3 => ?_
  have r1' := (r1.mono a2 f2).mono a3 f3
  have r2' := r2.mono a3 f3
  unfold opSetI at q3
  cases dx <;> (first | (exact False.elim q3) | skip)
  cases dy <;> (first | (exact False.elim q3) | skip)
  rename_i c k
  dsimp only at q3
  cases e : κ3[c]? with
  | none => rw [e] at q3; exact False.elim q3
  | some o =>
    rw [e] at q3
    cases o <;> (first | (exact False.elim q3) | skip)
    rename_i xs
    dsimp only at q3
    cases ei : ixN xs.length k with
    | none => rw [ei] at q3; exact False.elim q3
    | some j =>
      rw [ei] at q3
      unfold Rep at r2'
      obtain ⟨a, ha, rfl⟩ := r2'
      obtain rfl := r3
      obtain ⟨vs, hv, rl⟩ := S3.cel c a _ ha e
      refine ⟨a, vs, k, j, rfl, rfl, hv, by rw [← rl.length]; exact ei, ?_⟩
      exact q3 σ _ α3 F3 (AExt.refl _) (FExt.refl _) (S3.change ha e rfl ⟨_, upd_same, rl.set j r1'⟩) E3
theorem s_app {mo me : Env' → Store → Res D} : tS K W (fun ρ κ => (mo ρ κ).bindS ρ fun x κ => (opIsL x κ).bindS ρ fun _ κ => (me ρ κ).bindS ρ fun v κ => (opApp x v κ).bindS ρ fun _ κ => .ok (.next ρ) κ) De σ H →
    tDrop (tBM K "list" rAppend (tE K W mo) (tCons (tE K W me) tNil)) De σ H := by
  rintro ⟨B, α, F, κ, ρ, S, E, q⟩
  refine sE_seq S E q fun dx κ1 x H1 α1 F1 a1 f1 S1 E1 r1 q1 => ?_
  unfold opIsL at q1
  cases dx <;> (first | (exact False.elim q1) | skip)
  rename_i c
  dsimp only at q1
  cases e : κ1[c]? with
  | none => rw [e] at q1; exact False.elim q1
  | some o =>
    rw [e] at q1
    cases o <;> (first | (exact False.elim q1) | skip)
    rename_i xs
    unfold Rep at r1
    obtain ⟨a, ha, rfl⟩ := r1
    obtain ⟨vs, hv, rl⟩ := S1.cel c a _ ha e
    refine ⟨.inl ⟨rfl, vs, SqL.of hv⟩, ?_⟩
    refine sE_seq S1 E1 q1 fun dv κ2 v H2 α2 F2 a2 f2 S2 E2 r2 q2 => ?_
    unfold opApp at q2
    dsimp only at q2
    cases e2 : κ2[c]? with
    | none => rw [e2] at q2; exact False.elim q2
    | some o2 =>
      rw [e2] at q2
      cases o2 <;> (first | (exact False.elim q2) | skip)
      rename_i ys
      dsimp only at q2
      by_cases hz : 16777216 ≤ ys.length
      · rw [if_pos hz] at q2
        exact False.elim q2
      · rw [if_neg hz] at q2
        obtain ⟨us, hu, rl2⟩ := S2.cel c a _ (a2 _ _ ha) e2
        have hs : sizeLine = 16777216 := sizeLine_eq
        exact ⟨a, us, v, rfl, rfl, hu, by rw [hs, ← rl2.length]; omega, q2 σ _ α2 F2 (AExt.refl _) (FExt.refl _) (S2.change (a2 _ _ ha) e2 rfl ⟨_, upd_same, rl2.append (RepL.cons r2 RepL.nil)⟩) E2⟩
theorem putD_rep {α : List Addr} {F : Hp} {f : Str} {d : D} {v : V} : ∀ {fs : List (Str × D)} {us : List (Str × V)}, RepF K α F fs us → Rep K α F d v → RepF K α F (putD f d fs) (putF f v us)
  | [], us, h, r => by
    unfold RepF at h
    subst h
    show RepF K α F [(f, d)] (putF f v [])
    unfold RepF
    exact ⟨v, [], rfl, r, by unfold RepF; rfl⟩
  | (k, x) :: fs, us, h, r => by
    unfold RepF at h
    obtain ⟨y, w, rfl, h1, h2⟩ := h
    unfold putD putF
    by_cases e : k = f
    · rw [if_pos e]
      subst e
      simp only [beq_self_eq_true, if_true]
      unfold RepF
      exact ⟨v, w, rfl, r, h2⟩
    · rw [if_neg e, if_neg e]
      unfold RepF
      exact ⟨y, _, rfl, h1, putD_rep h2 r⟩
theorem s_setA {G : Gam} {X : Cx} {f : Str} {me mo : Env' → Store → Res D} (hc : ∀ c, G.att c f = .fld → Cls K (He.ga K c) ∧ NoAttr K (He.ga K c) f) : tS K W (fun ρ κ => (me ρ κ).bindS ρ fun v κ => (mo ρ κ).bindS ρ fun x κ => (opSetA (fun c f => (G.att c f).isF) x f v κ).bindS ρ fun _ κ => .ok (.next ρ) κ) De σ H →
    sFld K (tE K W mo) (tE K W me) f De σ H := by
  rintro ⟨B, α, F, κ, ρ, S, E, q⟩
  refine sE_seq S E q fun dv κ1 v H1 α1 F1 a1 f1 S1 E1 r1 q1 => ?_
  refine sE_seq S1 E1 q1 fun dx κ2 x H2 α2 F2 a2 f2 S2 E2 r2 q2 => ?_
  have r1' := r1.mono a2 f2
  unfold opSetA at q2
  cases dx <;> (first | (exact False.elim q2) | skip)
  rename_i c
  dsimp only at q2
  cases e : κ2[c]? with
  | none => rw [e] at q2; exact False.elim q2
  | some o =>
    rw [e] at q2
    cases o <;> (first | (exact False.elim q2) | skip)
    rename_i k fs
    dsimp only at q2
    by_cases hq : (G.att k f).isF = true ∧ fs.length < 1000
    · rw [if_pos hq] at q2
      have hf : G.att k f = .fld := by
        have := hq.1
        cases h : G.att k f <;> rw [h] at this <;> first | rfl | cases this
      obtain ⟨c1, c2⟩ := hc k hf
      unfold Rep at r2
      obtain ⟨a, ha, rfl⟩ := r2
      obtain ⟨dx, us, hv, rl⟩ := S2.cel c a _ ha e
      refine ⟨a, _, dx, us, rfl, hv, c1, c2, by rw [RepF.length rl]; exact hq.2, ?_⟩
      exact q2 σ _ α2 F2 (AExt.refl _) (FExt.refl _) (S2.change ha e rfl ⟨dx, _, upd_same, putD_rep rl r1'⟩) E2
    · rw [if_neg hq] at q2
      exact False.elim q2
theorem s_par {i j : Nat} {ma mb : Env' → Store → Res D} : tS K W (fun ρ κ => (ma ρ κ).bindS ρ fun x κ => (mb ρ κ).bindS ρ fun y κ => .ok (.next ((ρ.set i (some x)).set j (some y))) κ) De σ H →
    tPar i j (tCons (tE K W ma) (tCons (tE K W mb) tNil)) De σ H := by
  rintro ⟨B, α, F, κ, ρ, S, E, q⟩
  refine sE_seq S E q fun dx κ1 x H1 α1 F1 a1 f1 S1 E1 r1 q1 => ?_
  refine sE_seq S1 E1 q1 fun dy κ2 y H2 α2 F2 a2 f2 S2 E2 r2 q2 => ?_
  exact ⟨x, y, rfl, q2 _ H2 α2 F2 (AExt.refl _) (FExt.refl _) S2 ((E2.set i (r1.mono a2 f2)).set j r2)⟩
theorem s_par3 {i j l : Nat} {ma mb mc : Env' → Store → Res D} : tS K W (fun ρ κ => (ma ρ κ).bindS ρ fun x κ => (mb ρ κ).bindS ρ fun y κ => (mc ρ κ).bindS ρ fun z κ => .ok (.next (((ρ.set i (some x)).set j (some y)).set l (some z))) κ) De σ H →
    tPar3 i j l (tCons (tE K W ma) (tCons (tE K W mb) (tCons (tE K W mc) tNil))) De σ H := by
  rintro ⟨B, α, F, κ, ρ, S, E, q⟩
  refine sE_seq S E q fun dx κ1 x H1 α1 F1 a1 f1 S1 E1 r1 q1 => ?_
  refine sE_seq S1 E1 q1 fun dy κ2 y H2 α2 F2 a2 f2 S2 E2 r2 q2 => ?_
  refine sE_seq S2 E2 q2 fun dz κ3 z H3 α3 F3 a3 f3 S3 E3 r3 q3 => ?_
  exact ⟨x, y, z, rfl, q3 _ H3 α3 F3 (AExt.refl _) (FExt.refl _) S3 (((E3.set i ((r1.mono a2 f2).mono a3 f3)).set j (r2.mono a3 f3)).set l r3)⟩
theorem s_aug {i : Nat} {me : Env' → Store → Res D} : tS K W (fun ρ κ => (match ρ[i]? with
    | some (some d) => (me ρ κ).bindS ρ fun x κ => (opAug d x κ).bindS ρ fun y κ => .ok (.next (ρ.set i (some y))) κ
    | _ => .bad)) De σ H → tAug i (tE K W me) (ipI fun i j => i + j) De σ H := by
  rintro ⟨B, α, F, κ, ρ, S, E, q⟩
  dsimp only at q
  cases e : ρ[i]? with
  | none => rw [e] at q; exact False.elim q
  | some o =>
    rw [e] at q
    cases o with
    | none => exact False.elim q
    | some d =>
      obtain ⟨w, hw, rw'⟩ := E.at_ i d e
      refine ⟨w, hw, ?_⟩
      refine sE_seq S E q fun dx κ1 x H1 α1 F1 a1 f1 S1 E1 r1 q1 => ?_
      unfold opAug at q1
      cases d <;> (first | (exact False.elim q1) | skip)
      cases dx <;> (first | (exact False.elim q1) | skip)
      obtain rfl := r1
      obtain rfl := rw'
      exact ⟨_, _, rfl, rfl, q1 _ H1 α1 F1 (AExt.refl _) (FExt.refl _) S1 (E1.set i rfl)⟩
end

/-! ### the checker is right -/
theorem notComp_sw {e : Expr} {t : Option Expr} {l : Nat} {env : Env} (h : notComp e = true) : swapsWith e t l env = pure false := by
  cases e <;> first | rfl | cases h
theorem sub_sw {e : Expr} {a b : Expr} {p : Pos} {l : Nat} {env : Env} : swapsWith e (some (.Subscript a b p)) l env = pure false := by
  cases e <;> rfl
theorem noSwap_sw {sc : Scope} {tg e : Expr} {l : Nat} {env : Env} (hs : env.scope = sc) (h : noSwap sc tg e = true) : swapsWith e (some tg) l env = pure false := by
  unfold noSwap at h
  cases tg <;> (first | (cases h; done) | skip)
  · rename_i y p
    simp only [Bool.or_eq_true, Bool.not_eq_true', decide_eq_false_iff_not] at h
    cases c : notComp e with
    | true => exact notComp_sw c
    | false =>
      have key : ∀ (scope : Scope) (pos : Pos), (¬ sc.names.lookup y = some .local) ∨ (p.line == pos.line) = false →
          (env.blockKind == .function && env.kindOf y == some .local && p.line == pos.line && !(scope.names.any fun (n, k) => n == y && (k == .local || k == .cell))) = false := by
        intro scope pos h
        have ky : env.kindOf y = sc.names.lookup y := by rw [← hs]; rfl
        rcases h with h | h
        · have : (env.kindOf y == some NameKind.local) = false := by
            rw [ky]
            cases q : sc.names.lookup y with
            | none => rfl
            | some k =>
              rw [q] at h
              cases k <;> first | rfl | exact absurd rfl h
          rw [this]
          simp
        · rw [h]
          simp
      have h' : (¬ sc.names.lookup y = some .local) ∨ (p.line == e.pos.line) = false := by
        rcases h with (h | h) | h
        · rw [c] at h; cases h
        · exact .inl h
        · exact .inr h
      cases e <;> (first | (cases c; done) | skip)
      all_goals
        (show (pure _ : Sem Bool) = pure false
         congr 1
         exact key _ _ h')
  · simp only [Bool.and_eq_true] at h
    exact notComp_sw h.1
theorem fm_short {α β : Type} {f : α → Option β} {p : α → Bool} (hp : ∀ a, p a = true → f a = none) : ∀ {ts : List α}, ts.any p = true → (ts.filterMap f).length < ts.length
  | [], h => by cases h
  | a :: ts, h => by
    rw [List.any_cons, Bool.or_eq_true] at h
    rw [List.filterMap_cons]
    have hle := List.length_filterMap_le f ts
    cases e : f a with
    | none =>
      show (ts.filterMap f).length < ts.length + 1
      omega
    | some b =>
      rcases h with h | h
      · rw [hp a h] at e
        cases e
      · have := fm_short hp h
        show (ts.filterMap f).length + 1 < ts.length + 1
        omega
theorem cell_st {sc : Scope} {ts vs : List Expr} {kt k2 : Nat} {pt p2 : Pos} {env : Env} (hs : env.scope = sc) (h : ts.any (notLoc sc) = true) : swappedStores [.Tuple ts kt pt] (.Tuple vs k2 p2) env = pure none := by
  unfold swappedStores
  dsimp only
  split
  · rfl
  · split
    · rfl
    · rw [if_pos]
      rw [Bool.or_eq_true]
      left
      rw [bne_iff_ne]
      refine Nat.ne_of_lt (fm_short (p := notLoc sc) (fun a ha => ?_) h)
      cases a <;> (first | rfl | skip)
      rename_i y yp
      unfold notLoc at ha
      dsimp only at ha ⊢
      rw [if_neg]
      intro q
      rw [Bool.and_eq_true] at q
      have q1 : (sc.names.lookup y == some NameKind.local) = true := by rw [← hs]; exact q.1
      rw [q1] at ha
      cases ha
theorem noSwap_st {sc : Scope} {tg e : Expr} {env : Env} (hs : env.scope = sc) (h : noSwap sc tg e = true) : swappedStores [tg] e env = pure none := by
  unfold noSwap at h
  cases tg <;> (first | (cases h; done) | skip)
  · cases e <;> rfl
  · simp only [Bool.and_eq_true] at h
    cases e <;> (first | rfl | skip)
    have h2 := h.2
    dsimp only at h2
    rw [Bool.or_eq_true] at h2
    rcases h2 with h2 | h2
    · unfold swappedStores
      dsimp only
      rw [h2]
      rfl
    · exact cell_st hs h2
theorem one_each {X : Cx} {Z : Sta} {t : Tg} {tg : Expr} (h : ckTg Z t tg = true) : (assignEach [tg] X.env).map (·.2) = [assign tg X.env] := by
  rw [tg_each h]
  rfl
theorem comp_parts {Z : Sta} {t : Tg} {s : Src} {cs : List T} {e : E} {own : List Nat} {e' : Expr} {gens : List Comprehension} {scope : Scope} {p : Pos} (h : ck Z (.comp t s cs e own) (.ListComp e' gens scope p) = true) :
    ∃ tg it ifs, gens = [⟨tg, it, ifs, 0⟩] ∧ blkC Z.N Z.sc scope (own.map fun i => (slotName Z.N i, i)) = true ∧ notSet it = true ∧ (∀ i ∈ t.slots, i ∈ own) ∧ ckTg (Z.blk scope) t tg = true ∧ ckSrc Z s it = true ∧ ckC (Z.blk scope) cs ifs = true ∧ ck (Z.blk scope) e e' = true := by
  rcases gens with _ | ⟨⟨tg, it, ifs, n⟩, _ | ⟨_, _⟩⟩ <;> (first | (cases h; done) | skip)
  unfold ck at h
  simp only [Bool.and_eq_true, decide_eq_true_eq] at h
  obtain ⟨⟨⟨⟨⟨⟨⟨⟨hz, h0⟩, h1⟩, h2⟩, h3⟩, h4⟩, h5⟩, h6⟩, h7⟩ := h
  subst h0
  exact ⟨tg, it, ifs, rfl, h1, h2, fun i hi => List.contains_iff_mem.mp (List.all_eq_true.mp h3 i hi), h4, h5, h6, h7⟩
theorem star_false {a : Expr} (h : noStar a = true) : (match a with | .Starred .. => true | _ => false) = false := by
  cases a <;> first | rfl | cases h
theorem par_st {x y : Str} {px py pt pt2 : Pos} {kt k2} {a b : Expr} {env : Env} (hb : env.scope.kind = .function) (hx : env.scope.names.lookup x = some .local) (hy : env.scope.names.lookup y = some .local)
    (hl : (px.line == py.line) = true) (ne : x ≠ y) (na : noStar a = true) (nb : noStar b = true) (h1 : ([a, b].all (foldedForSure 8)) = false) (h2 : ([a, b].all (constantsAlone 8)) = false) :
    swappedStores [.Tuple [.Name x px, .Name y py] kt pt] (.Tuple [a, b] k2 pt2) env = pure (some [x, y]) := by
  have hb' : env.blockKind = .function := by unfold Env.blockKind; rw [hb]; rfl
  have kx : env.kindOf x = some .local := hx
  have ky : env.kindOf y = some .local := hy
  have hl' : py.line = px.line := (eq_of_beq hl).symm
  have ne' : (y == x) = false := by simpa using Ne.symm ne
  have ne2 : (x == y) = false := by simpa using ne
  unfold swappedStores
  simp [hb', kx, ky, h1, h2, hl', ne, Ne.symm ne, List.filterMap, Expr.pos, List.eraseDups_cons]
  intro h
  rcases h with h | h
  · cases a <;> first | (cases h; done) | cases na
  · cases b <;> first | (cases h; done) | cases nb
theorem par_st3 {x y z : Str} {px py pz pt pt2 : Pos} {kt k2} {a b c : Expr} {env : Env} (hb : env.scope.kind = .function) (hx : env.scope.names.lookup x = some .local) (hy : env.scope.names.lookup y = some .local) (hz : env.scope.names.lookup z = some .local)
    (hl : (px.line == py.line) = true) (hl2 : (px.line == pz.line) = true) (ne : x ≠ y) (ne2 : x ≠ z) (ne3 : y ≠ z) (na : noStar a = true) (nb : noStar b = true) (nc : noStar c = true) (h1 : ([a, b, c].all (foldedForSure 8)) = false) (h2 : ([a, b, c].all (constantsAlone 8)) = false) :
    swappedStores [.Tuple [.Name x px, .Name y py, .Name z pz] kt pt] (.Tuple [a, b, c] k2 pt2) env = pure (some [x, y, z]) := by
  have hb' : env.blockKind = .function := by unfold Env.blockKind; rw [hb]; rfl
  have kx : env.kindOf x = some .local := hx
  have ky : env.kindOf y = some .local := hy
  have kz : env.kindOf z = some .local := hz
  have hl' : py.line = px.line := (eq_of_beq hl).symm
  have hl3 : pz.line = px.line := (eq_of_beq hl2).symm
  unfold swappedStores
  simp [hb', kx, ky, kz, h1, h2, hl', hl3, ne, Ne.symm ne, ne2, Ne.symm ne2, ne3, Ne.symm ne3, List.filterMap, Expr.pos, List.eraseDups_cons]
  intro h
  rcases h with h | h | h
  · cases a <;> first | (cases h; done) | cases na
  · cases b <;> first | (cases h; done) | cases nb
  · cases c <;> first | (cases h; done) | cases nc
theorem comp_cold {Z : Sta} {t : Tg} {s : Src} {cs : List T} {e : E} {own : List Nat} {x : Expr} (h : ck Z (.comp t s cs e own) x = true) : Z.hot = false := by
  cases x <;> (first | (cases h; done) | skip)
  rename_i e' gens scope p
  rcases gens with _ | ⟨⟨tg, it, ifs, n⟩, _ | ⟨_, _⟩⟩ <;> (first | (cases h; done) | skip)
  unfold ck at h
  simp only [Bool.and_eq_true, decide_eq_true_eq] at h
  obtain ⟨⟨⟨⟨⟨⟨⟨⟨hz, h0⟩, h1⟩, h2⟩, h3⟩, h4⟩, h5⟩, h6⟩, h7⟩ := h
  exact cold hz
/-! ### o[i], name = a, b -/
theorem sub_swap {o i a b : Expr} {x : Str} {sp px tp vp : Pos} {tk vk : Nat} {env : Env} (na : noStar a = true) (nb : noStar b = true) :
    swappedStores [.Tuple [.Subscript o i sp, .Name x px] tk tp] (.Tuple [a, b] vk vp) env = pure none := by
  unfold swappedStores
  dsimp only
  split
  · rfl
  · split
    · rfl
    · rw [if_pos]
      simp only [List.filterMap_cons, List.filterMap_nil]
      generalize (env.kindOf x == some NameKind.local && _) = bb
      cases bb <;> rfl
section
variable {K : PySem.W.Frag} {B : Hp} {W : WX} {σ : L2.St} {H : Hp} {α : List Addr} {F : Hp} {κ : Store} {ρ : Env'} {De : Ends}
theorem s_setN {mt mo mi : Env' → Store → Res D} {j : Nat} : tS K W (fun ρ κ => (mt ρ κ).bindS ρ fun t κ => (match t with
    | .tup [v, w] => (mo ρ κ).bindS ρ fun x κ => (mi ρ κ).bindS ρ fun y κ => (opSetI x y v κ).bindS ρ fun _ κ => .ok (.next (ρ.set j (some w))) κ
    | _ => .bad)) De σ H → tAsg (tE K W mt) (gTup K 2 (gCons (gSub (tE K W mo) (tE K W mi) rSetL) (gCons (gName j) gNil))) De σ H := by
  rintro ⟨B, α, F, κ, ρ, S, E, q⟩
  refine sE_seq S E q fun dt κ1 t H1 α1 F1 a1 f1 S1 E1 r1 q1 => ?_
  cases dt <;> (first | (exact False.elim q1) | skip)
  rename_i ds
  rcases ds with _ | ⟨dv, _ | ⟨dw, _ | ⟨_, _⟩⟩⟩ <;> (first | (exact False.elim q1) | skip)
  dsimp only at q1
  unfold Rep at r1
  obtain ⟨a, vs, rfl, sq, rl⟩ := r1
  unfold RepL at rl
  obtain ⟨v, r, rfl, rv, rl⟩ := rl
  unfold RepL at rl
  obtain ⟨w, r', rfl, rw', rl⟩ := rl
  unfold RepL at rl
  subst rl
  refine ⟨a, [v, w], rfl, S1.sqT sq, rfl, v, [w], rfl, ?_⟩
  refine sE_seq S1 E1 q1 fun dx κ2 x H2 α2 F2 a2 f2 S2 E2 r2 q2 => ?_
  refine sE_seq S2 E2 q2 fun dy κ3 y H3 α3 F3 a3 f3 S3 E3 r3 q3 => ?_
  have rv' := (rv.mono a2 f2).mono a3 f3
  have rw2 := (rw'.mono a2 f2).mono a3 f3
  have r2' := r2.mono a3 f3
  unfold opSetI at q3
  cases dx <;> (first | (exact False.elim q3) | skip)
  cases dy <;> (first | (exact False.elim q3) | skip)
  rename_i c k
  dsimp only at q3
  cases e : κ3[c]? with
  | none => rw [e] at q3; exact False.elim q3
  | some o =>
    rw [e] at q3
    cases o <;> (first | (exact False.elim q3) | skip)
    rename_i xs
    dsimp only at q3
    cases ei : ixN xs.length k with
    | none => rw [ei] at q3; exact False.elim q3
    | some jj =>
      rw [ei] at q3
      unfold Rep at r2'
      obtain ⟨a4, ha, rfl⟩ := r2'
      obtain rfl := r3
      obtain ⟨vs, hv, rl⟩ := S3.cel c a4 _ ha e
      refine ⟨a4, vs, k, jj, rfl, rfl, hv, by rw [← rl.length]; exact ei, ?_⟩
      refine ⟨w, [], rfl, rfl, ?_⟩
      exact q3 _ _ α3 F3 (AExt.refl _) (FExt.refl _) (S3.change ha e rfl ⟨_, upd_same, rl.set jj rv'⟩) (E3.set j rw2)
end
/-! ### raise -/
section
variable {K : PySem.W.Frag} {B : Hp} {W : WX} {σ : L2.St} {H : Hp} {α : List Addr} {F : Hp} {κ : Store} {ρ : Env'} {De : Ends}
theorem sA_seq {m : Env' → Store → Res (List D)} {f : List D → Store → Res Flow} {R : List V → Hp → Prop} (S : I3.St K B α F κ H) (E : RepE K α F ρ σ) (h : PostS K B W α F De ((m ρ κ).bindS ρ f))
    (k : ∀ d κ1 v H1 α1 F1, AExt α α1 → FExt F F1 → I3.St K B α1 F1 κ1 H1 → RepE K α1 F1 ρ σ → RepL K α1 F1 d v → PostS K B W α1 F1 De (f d κ1) → R v H1) : tA K W m σ H R := by
  refine ⟨B, α, F, κ, ρ, S, E, ?_⟩
  cases e : m ρ κ with
  | ok d κ1 =>
    rw [e] at h
    exact fun v H1 α1 F1 a1 f1 S1 r1 => k d κ1 v H1 α1 F1 a1 f1 S1 (E.mono a1 f1) r1 (PostS.mono a1 f1 h)
  | exc c fs κ1 =>
    rw [e] at h
    exact h σ α F (AExt.refl _) (FExt.refl _) E
  | bad =>
    rw [e] at h
    exact False.elim h
theorem str_len (a b : Str) : (a ++ b).length = a.length + b.length := by
  show (a.cps ++ b.cps).size = _
  exact Array.size_append
theorem pt_le {ds : List D} : ∀ {ps : List Pt} {n : Nat}, Pt.ok ds ps n = true → n ≤ 16777216
  | [], n, h => of_decide_eq_true h
  | .s x :: ps, n, h => by
    have := pt_le (ps := ps) (n := n + x.length) h
    omega
  | .v i :: ps, n, h => by
    unfold Pt.ok at h
    split at h
    · have := pt_le h
      omega
    · rw [Bool.and_eq_true] at h
      have := pt_le h.2
      omega
    · cases h
theorem int_len {j : Int} (h : -big < j ∧ j < big) : (Str.ofString (toString j)).length ≤ 62 := by
  have hb : j.natAbs < 10 ^ 61 := by
    have : big < 10 ^ 61 := by decide +kernel
    omega
  have e := int_text_length_le10 (k := 61) (by decide) hb
  rw [PySem.ofString_length]
  omega
theorem pt_ok {ds : List D} {vs : List V} (r : RepL K α F ds vs) : ∀ {ps : List Pt} {n : Nat} {acc : Str}, Pt.ok ds ps n = true → acc.length ≤ n → ptV vs ps acc
  | [], _, _, _, _ => trivial
  | .s x :: ps, n, acc, h, ha => by
    have hl := pt_le (ps := ps) (n := n + x.length) h
    have hs : sizeLine = 16777216 := sizeLine_eq
    exact ⟨by rw [str_len, hs]; omega, pt_ok r (ps := ps) (n := n + x.length) h (by rw [str_len]; omega)⟩
  | .v i :: ps, n, acc, h, ha => by
    have hs : sizeLine = 16777216 := sizeLine_eq
    unfold Pt.ok at h
    split at h
    · rename_i y e
      have hl := pt_le h
      obtain ⟨v, e1, e2⟩ := r.get e
      obtain rfl := e2
      exact ⟨y, .inl ⟨e1, by rw [hs]; omega⟩, by rw [str_len, hs]; omega, pt_ok r h (by rw [str_len]; omega)⟩
    · rename_i j e
      rw [Bool.and_eq_true] at h
      have hl := pt_le h.2
      have hj := of_decide_eq_true h.1
      have h62 := int_len hj
      obtain ⟨v, e1, e2⟩ := r.get e
      obtain rfl := e2
      exact ⟨Str.ofString (toString j), .inr ⟨j, e1, log_ok hj, rfl⟩, by rw [str_len, hs]; omega, pt_ok r h.2 (by rw [str_len]; omega)⟩
    · cases h
theorem RepF.append : ∀ {fs gs : List (Str × D)} {us ws : List (Str × V)}, RepF K α F fs us → RepF K α F gs ws → RepF K α F (fs ++ gs) (us ++ ws)
  | [], _, us, _, h, t => by unfold RepF at h; rw [h]; exact t
  | (k, d) :: fs, gs, us, ws, h, t => by
    unfold RepF at h
    obtain ⟨v, r, ev, h1, h2⟩ := h
    rw [ev]
    show RepF K α F ((k, d) :: (fs ++ gs)) ((k, v) :: (r ++ ws))
    unfold RepF
    exact ⟨v, _, rfl, h1, RepF.append h2 t⟩
theorem RepF.rev : ∀ {fs : List (Str × D)} {us : List (Str × V)}, RepF K α F fs us → RepF K α F fs.reverse us.reverse
  | [], us, h => by unfold RepF at h; rw [h]; unfold RepF; rfl
  | (k, d) :: fs, us, h => by
    unfold RepF at h
    obtain ⟨v, r, ev, h1, h2⟩ := h
    rw [ev, List.reverse_cons, List.reverse_cons]
    refine RepF.append (RepF.rev h2) ?_
    unfold RepF
    exact ⟨v, [], rfl, h1, by unfold RepF; rfl⟩
theorem repF_zip : ∀ {fs : List Str} {ds : List D} {vs : List V}, RepL K α F ds vs → RepF K α F (fs.zip ds) (fs.zip vs)
  | [], ds, vs, _ => by unfold RepF; rfl
  | f :: fs, [], vs, h => by unfold RepL at h; subst h; unfold RepF; rfl
  | f :: fs, d :: ds, vs, h => by
    unfold RepL at h
    obtain ⟨v, r, rfl, h1, h2⟩ := h
    show RepF K α F ((f, d) :: fs.zip ds) ((f, v) :: fs.zip r)
    unfold RepF
    exact ⟨v, _, rfl, h1, repF_zip h2⟩
theorem s_raise {c : Str} {xi : XI} {ma : Env' → Store → Res (List D)} : tS K W (fun ρ κ => (ma ρ κ).bindS ρ fun ds κ => if xi.ok ds = true then .ok (.exc c (xi.fs.zip ds).reverse ρ) κ else .bad) De σ H →
    tMkO (He.ga K c) (spI K (He.ga K c) xi) [] (tA K W ma) σ H (fun cls d H' => W cls d σ H') := by
  rintro ⟨B, α, F, κ, ρ, S, E, q⟩
  refine sA_seq S E q fun ds κ1 vs H1 α1 F1 a1 f1 S1 E1 r1 q1 => ?_
  by_cases ok : xi.ok ds = true
  case neg =>
    rw [if_neg ok] at q1
    exact False.elim q1
  rw [if_pos ok] at q1
  unfold XI.ok at ok
  simp only [Bool.and_eq_true, decide_eq_true_eq] at ok
  obtain ⟨⟨o1, o2⟩, o3⟩ := ok
  have hl := r1.length
  refine ⟨by omega, fun a ha => ?_⟩
  rw [List.append_nil]
  refine ⟨by rw [List.length_cons]; omega, a, vs, rfl, by omega, by omega, upd_same, pt_ok r1 o3 (Nat.zero_le _), fun dx H' hdx hne keep hxa hxd => ?_⟩
  have hd1 : H1 dx = none := by rw [upd_ne hne] at hdx; exact hdx
  refine ⟨rfl, dx, _, hxa, hxd, hd1, ?_⟩
  have eH : upd (del H' a) dx (.xd (xi.fs.zip vs).reverse) = upd H1 dx (.xd (xi.fs.zip vs).reverse) := by
    funext b
    by_cases e1 : b = dx
    · rw [e1, upd_same, upd_same]
    · rw [upd_ne e1, upd_ne e1]
      by_cases e2 : b = a
      · rw [e2, del_same, ha]
      · rw [del_ne e2, keep b e2 e1, upd_ne e2]
  rw [eH]
  have px := q1 σ α1 F1 (AExt.refl _) (FExt.refl _) E1
  exact px dx _ _ α1 (upd F1 dx (.xd (xi.fs.zip vs).reverse)) (AExt.refl _) (FExt.new (S1.fresh hd1)) (S1.frozen hd1) upd_same ((repF_zip r1).rev.mono (AExt.refl _) (FExt.new (S1.fresh hd1)))
/-! ### try -/
/-- a suite's reading -/
def tsH (K : PySem.W.Frag) (G : Gam) (h : List S) (a : Addr) (cls : Value) (d : Option Addr) : TS := fun D σ H => ∃ dx c, d = some dx ∧ cls = .ref (He.ga K c) ∧ tS K (fun _ _ _ _ => False) (evSs { G with exn := some (a, dx, c) } h) D σ H
theorem hand_all {r : Nat → Nat → Res Flow} {De : Ends} {Wout : WX} (q : PostS K B Wout α F De (hand r)) (a dx : Nat) : PostS K B Wout α F De (r a dx) := by
  unfold hand at q
  split at q
  · rename_i h
    rw [h a dx]
    exact q
  · exact False.elim q
theorem post_try {r : Res Flow} {g : Flow → Store → Res Flow} {De : Ends} {W' Wout : WX} (hg : ∀ f κ1, (∀ c fs ρ, f ≠ .exc c fs ρ) → g f κ1 = .ok f κ1) (q : PostS K B Wout α F De (r.bind g))
    (hx : ∀ c fs ρ' κ1, PostS K B Wout α F De (g (.exc c fs ρ') κ1) → PostS K B W' α F De (.ok (.exc c fs ρ') κ1)) : PostS K B W' α F De r := by
  cases r with
  | ok f κ1 =>
    rw [Res.bind_ok] at q
    cases f with
    | exc c fs ρ' => exact hx c fs ρ' κ1 q
    | next ρ => rw [hg _ _ (fun _ _ _ z => by cases z)] at q; exact q
    | ret d => rw [hg _ _ (fun _ _ _ z => by cases z)] at q; exact q
    | brk ρ => rw [hg _ _ (fun _ _ _ z => by cases z)] at q; exact q
    | cont ρ => rw [hg _ _ (fun _ _ _ z => by cases z)] at q; exact q
  | exc c fs κ1 => exact q
  | bad => exact q
theorem s_tryAs {G : Gam} {b h : List S} {c : Str} {i : Nat} {De : Ends} {Wout : WX} (hk : ∀ c' y b, G.kX c' y = some b → PySem.W.exmOne K (.ref (He.ga K c')) (clsV K y) = some b) :
    tS K Wout (evS G (.try_ b c (some i) h)) De σ H → tS K (wAs K (clsV K c) i (tsH K G h) Wout De) (evSs G b) De σ H := by
  rintro ⟨B, α, F, κ, ρ, S, E, q⟩
  refine ⟨B, α, F, κ, ρ, S, E, ?_⟩
  have q0 : PostS K B Wout α F De (if G.kN c = true then (evSs G b ρ κ).bind fun f κ1 => (match f with
    | .exc c' fs ρ' => (match G.kX c' c with
      | some true => hand fun a dx => (evSs { G with exn := some (a, dx, c') } h (startH (some i) (.exn a dx c' fs) ρ') κ1).bind (endH (some i))
      | some false => .ok (.exc c' fs ρ') κ1
      | none => .bad)
    | f => .ok f κ1) else .bad) := q
  split at q0
  case isFalse => exact False.elim q0
  refine post_try (fun f κ1 hf => ?_) q0 fun c' fs ρ' κ1 q1 => ?_
  · cases f <;> first | rfl | exact absurd rfl (hf _ _ _)
  dsimp only at q1
  intro σ' α' F' a f E' dx us H' α2 F2 a2 f2 S2 hdx rf
  cases e : G.kX c' c with
  | none => rw [e] at q1; exact False.elim q1
  | some bb =>
    rw [e] at q1
    refine ⟨bb, hk _ _ _ e, fun hb ad na => ?_, fun hb => ?_⟩
    · subst hb
      dsimp only at q1
      have q2 := PostS.mono (a.trans a2) (f.trans f2) (hand_all q1 ad dx)
      refine ⟨dx, c', rfl, rfl, B, α2, F2, κ1, startH (some i) (.exn ad dx c' fs) ρ', S2, RepE.set i (E'.mono a2 f2) ?_, ?_⟩
      · unfold Rep
        exact ⟨us, rfl, hdx, rf⟩
      · revert q2
        cases evSs { G with exn := some (ad, dx, c') } h (startH (some i) (.exn ad dx c' fs) ρ') κ1 with
        | ok fl κ2 =>
          intro q2
          rw [Res.bind_ok] at q2
          cases fl with
          | next ρ2 => exact fun σ3 H3 α3 F3 a3 f3 S3 E3 => q2 _ H3 α3 F3 a3 f3 S3 (E3.unset i)
          | brk ρ2 => exact fun σ3 H3 α3 F3 a3 f3 S3 E3 => q2 _ H3 α3 F3 a3 f3 S3 (E3.unset i)
          | cont ρ2 => exact fun σ3 H3 α3 F3 a3 f3 S3 E3 => q2 _ H3 α3 F3 a3 f3 S3 (E3.unset i)
          | ret d => exact q2
          | exc _ _ _ => exact False.elim q2
        | exc _ _ _ => exact fun q2 => q2
        | bad => exact fun q2 => q2
    · subst hb
      exact q1 σ' α' F' a f E' dx us H' α2 F2 a2 f2 S2 hdx rf
theorem s_tryOnly {G : Gam} {b h : List S} {c : Str} {De : Ends} {Wout : WX} (hk : ∀ c' y b, G.kX c' y = some b → PySem.W.exmOne K (.ref (He.ga K c')) (clsV K y) = some b) :
    tS K Wout (evS G (.try_ b c none h)) De σ H → tS K (wOnly K (clsV K c) (tsH K G h) Wout De) (evSs G b) De σ H := by
  rintro ⟨B, α, F, κ, ρ, S, E, q⟩
  refine ⟨B, α, F, κ, ρ, S, E, ?_⟩
  have q0 : PostS K B Wout α F De (if G.kN c = true then (evSs G b ρ κ).bind fun f κ1 => (match f with
    | .exc c' fs ρ' => (match G.kX c' c with
      | some true => hand fun a dx => (evSs { G with exn := some (a, dx, c') } h (startH none (.exn a dx c' fs) ρ') κ1).bind (endH none)
      | some false => .ok (.exc c' fs ρ') κ1
      | none => .bad)
    | f => .ok f κ1) else .bad) := q
  split at q0
  case isFalse => exact False.elim q0
  refine post_try (fun f κ1 hf => ?_) q0 fun c' fs ρ' κ1 q1 => ?_
  · cases f <;> first | rfl | exact absurd rfl (hf _ _ _)
  dsimp only at q1
  intro σ' α' F' a f E' dx us H' α2 F2 a2 f2 S2 hdx rf
  cases e : G.kX c' c with
  | none => rw [e] at q1; exact False.elim q1
  | some bb =>
    rw [e] at q1
    refine ⟨bb, hk _ _ _ e, fun hb ad na => ?_, fun hb => ?_⟩
    · subst hb
      dsimp only at q1
      have q2 := PostS.mono (a.trans a2) (f.trans f2) (hand_all q1 ad dx)
      refine ⟨dx, c', rfl, rfl, B, α2, F2, κ1, startH none (.exn ad dx c' fs) ρ', S2, E'.mono a2 f2, ?_⟩
      revert q2
      cases evSs { G with exn := some (ad, dx, c') } h (startH none (.exn ad dx c' fs) ρ') κ1 with
      | ok fl κ2 =>
        intro q2
        rw [Res.bind_ok] at q2
        cases fl with
        | exc _ _ _ => exact False.elim q2
        | next _ => exact q2
        | brk _ => exact q2
        | cont _ => exact q2
        | ret _ => exact q2
      | exc _ _ _ => exact fun q2 => q2
      | bad => exact fun q2 => q2
    · subst hb
      exact q1 σ' α' F' a f E' dx us H' α2 F2 a2 f2 S2 hdx rf
end
theorem Ctx.tr {X : Cx} {Z : Sta} {k : Nat} {W W' : WX} {G : Gam} (c : Ctx X Z k W G) (hz : Z.hot = false) (pn : List (Addr × Obj)) (xe : Value → Shared → Prop) (tk : Takes (X.tr pn xe) W') (ps : PassesOwn (model X.prog X.w) X.A X.env xe) : Ctx (X.tr pn xe) Z k W' G where
  hN := c.hN
  hsc := c.hsc
  nd := c.nd
  calm := c.calm
  room := c.room
  un := c.un
  tk := tk
  pass := fun _ => ps
  fn := c.fn
  glob := c.glob
  cat := c.cat
  low := fun cc f h => by
    obtain ⟨h0, p, g, h1, hk⟩ := c.low cc f h
    exact ⟨h0, p, g, h1, hk.elim .inl fun ⟨j, hj, ⟨fd, ps, h2, h3, h4⟩⟩ => .inr ⟨j, hj, ⟨fd, ps, h2, h3, h4⟩⟩⟩
  fld := c.fld
  con := c.con
  meth := fun cc m h => by
    obtain ⟨h0, g, h1, ⟨fd, ps, h2, h3, h4⟩, hk, hk2⟩ := c.meth cc m h
    exact ⟨h0, g, h1, ⟨fd, ps, h2, h3, h4⟩, hk.elim .inl fun ⟨j, hj, ⟨fd, ps, h2, h3, h4⟩⟩ => .inr ⟨j, hj, ⟨fd, ps, h2, h3, h4⟩⟩, hk2.elim .inl fun ⟨j, hj, ⟨fd, ps, h2, h3, h4⟩⟩ => .inr ⟨j, hj, ⟨fd, ps, h2, h3, h4⟩⟩⟩
  make := fun cc h => by
    obtain ⟨h0, g, h1, hk⟩ := c.make cc h
    refine ⟨h0, g, h1, hk.elim .inl fun ⟨j, hj, ⟨fd, ps, h2, h3, h4⟩⟩ => .inr ⟨j, hj, ⟨fd, ps, h2, h3, h4⟩⟩⟩
  kC := c.kC
  kI := c.kI
  kB := c.kB
  kO := c.kO
  low0 := c.low0
  lo20 := c.lo20
  kE := c.kE
  xc := fun cc xi h => by
    obtain ⟨h1, h2, h3, g, fd, ps, h4, h5, h6, h7⟩ := c.xc cc xi h
    exact ⟨h1, h2, h3, g, fd, ps, h4, h5, h6, h7⟩
  kX := c.kX
  kN := c.kN
  kY := c.kY
  xa := c.xa
  stk := c.stk
  exn := fun a dx cc h => by
    have := (c.exn a dx cc h).1
    rw [hz] at this
    cases this
  blt := c.blt
  call := fun f hf => by
    obtain ⟨a, h1, ⟨fd, ps, h2, h3, h4⟩⟩ := c.call f hf
    exact ⟨a, h1, ⟨fd, ps, h2, h3, h4⟩⟩
  scall := fun f hf => by
    obtain ⟨C, p, g, z1, z2, z3, ⟨fd, ps, h2, h3, h4⟩⟩ := c.scall f hf
    exact ⟨C, p, g, z1, z2, z3, ⟨fd, ps, h2, h3, h4⟩⟩
theorem Ctx.suite {X : Cx} {Z : Sta} {k : Nat} {W : WX} {G : Gam} (c : Ctx X Z k W G) {a dx : Addr} {oe : Obj} {cc : Str} (pn : List (Addr × Obj)) (hzc : Zc (.ref (He.ga X.K cc)) (some dx) oe) (hf : ∃ vs, oe.data = .fields vs) :
    Ctx (X.suite a ((a, oe) :: pn)) Z.heat k (fun _ _ _ _ => False) { G with exn := some (a, dx, cc) } where
  hN := c.hN
  hsc := c.hsc
  nd := c.nd
  calm := fun h => by cases h
  room := fun h => by cases h
  un := c.un
  tk := takes_none5
  pass := fun h => by cases h
  fn := c.fn
  glob := c.glob
  cat := c.cat
  low := fun cc f h => by
    obtain ⟨h0, p, g, h1, hk⟩ := c.low cc f h
    exact ⟨h0, p, g, h1, hk.elim .inl fun ⟨j, hj, ⟨fd, ps, h2, h3, h4⟩⟩ => .inr ⟨j, hj, ⟨fd, ps, h2, h3, h4⟩⟩⟩
  fld := c.fld
  con := c.con
  meth := fun cc m h => by
    obtain ⟨h0, g, h1, ⟨fd, ps, h2, h3, h4⟩, hk, hk2⟩ := c.meth cc m h
    exact ⟨h0, g, h1, ⟨fd, ps, h2, h3, h4⟩, hk.elim .inl fun ⟨j, hj, ⟨fd, ps, h2, h3, h4⟩⟩ => .inr ⟨j, hj, ⟨fd, ps, h2, h3, h4⟩⟩, hk2.elim .inl fun ⟨j, hj, ⟨fd, ps, h2, h3, h4⟩⟩ => .inr ⟨j, hj, ⟨fd, ps, h2, h3, h4⟩⟩⟩
  make := fun cc h => by
    obtain ⟨h0, g, h1, hk⟩ := c.make cc h
    refine ⟨h0, g, h1, hk.elim .inl fun ⟨j, hj, ⟨fd, ps, h2, h3, h4⟩⟩ => .inr ⟨j, hj, ⟨fd, ps, h2, h3, h4⟩⟩⟩
  kC := c.kC
  kI := c.kI
  kB := c.kB
  kO := c.kO
  low0 := c.low0
  lo20 := c.lo20
  kE := c.kE
  xc := fun cc xi h => by
    obtain ⟨h1, h2, h3, g, fd, ps, h4, h5, h6, h7⟩ := c.xc cc xi h
    exact ⟨h1, h2, h3, g, fd, ps, h4, h5, h6, h7⟩
  kX := c.kX
  kN := c.kN
  kY := c.kY
  xa := c.xa
  stk := c.stk
  exn := fun a' dx' c' h => by
    have h' : some (a, dx, cc) = some (a', dx', c') := h
    simp only [Option.some.injEq, Prod.mk.injEq] at h'
    obtain ⟨rfl, rfl, rfl⟩ := h'
    exact ⟨rfl, X, oe, pn, rfl, hzc, hf⟩
  blt := c.blt
  call := fun f hf => by
    obtain ⟨a, h1, ⟨fd, ps, h2, h3, h4⟩⟩ := c.call f hf
    exact ⟨a, h1, ⟨fd, ps, h2, h3, h4⟩⟩
  scall := fun f hf => by
    obtain ⟨C, p, g, z1, z2, z3, ⟨fd, ps, h2, h3, h4⟩⟩ := c.scall f hf
    exact ⟨C, p, g, z1, z2, z3, ⟨fd, ps, h2, h3, h4⟩⟩
theorem names_of {X : Cx} {x : Str} (hg : Gl X x) (hn : nameOk x = true) (h : NameV X x (clsV X.K x)) : Names X x (clsV X.K x) := by
  refine ⟨hg, (nameOk_of hn).1, ?_⟩
  rcases h with ⟨m1, _⟩ | ⟨m1, m2, m3⟩
  · exact .inl m1
  · refine .inr ⟨m1, ?_, ?_⟩
    · rw [m3, m2]
      exact PyProof.Rows.Boot.«ValueError»
    · rw [m2]
      decide
mutual
theorem sS : ∀ (s : S) {X : Cx} {Z : Sta} {k : Nat} {W : WX} {G : Gam} (c : Ctx X Z k W G) (st : Stmt), ckS Z s st = true → PS X st (tS X.K W (evS G s))
  | .bad, X, Z, k, W, G, c, st, h => ⟨fun _ _ _ _ _ _ ⟨B, α, F, κ, ρ, _, _, q⟩ => False.elim q⟩
  | .pass, X, Z, k, W, G, c, st, h => by
    cases st <;> (first | (cases h; done) | skip)
    · rename_i e p
      cases e <;> (first | (cases h; done) | skip)
      rename_i v n q
      cases v <;> (first | (cases h; done) | skip)
      exact ps_imp ps_doc fun D σ H => s_nil
    · exact ps_imp ps_pass fun D σ H => s_nil
  | .brk, X, Z, k, W, G, c, st, h => by
    cases st <;> (first | (cases h; done) | skip)
    exact ps_imp ps_break fun D σ H => s_brk
  | .cont, X, Z, k, W, G, c, st, h => by
    cases st <;> (first | (cases h; done) | skip)
    exact ps_imp ps_continue fun D σ H => s_cont
  | .asg t e, X, Z, k, W, G, c, st, h => by
    cases st <;> (first | (cases h; done) | skip)
    rename_i tgs e' p
    rcases tgs with _ | ⟨tg, _ | ⟨_, _⟩⟩ <;> (first | (cases h; done) | skip)
    unfold ckS at h
    simp only [Bool.and_eq_true, Bool.or_eq_true] at h
    obtain ⟨⟨h1, h2⟩, h3⟩ := h
    have hg := pg_of c.hN c.hsc c.nd c.calm c.fn t tg h1
    rcases h3 with h3 | h3
    · exact ps_imp (ps_asg (sE e c e' h2) hg (noSwap_sw c.hsc h3) (noSwap_st c.hsc h3) (one_each h1)) fun D σ H => s_asg
    · unfold swapYes at h3
      split at h3
      · rename_i y py elt gens scope pos
        simp only [Bool.and_eq_true, decide_eq_true_eq, Bool.not_eq_true'] at h3
        obtain ⟨⟨⟨h4, h5⟩, h6⟩, h7⟩ := h3
        cases t with
        | tp ts => cases h1
        | nm i =>
        have hi : X.N[i]? = some y := by
          unfold ckTg at h1
          simp only [Bool.and_eq_true, decide_eq_true_eq] at h1
          rw [c.hN]
          exact h1.1
        cases e <;> (first | (cases h2; done) | skip)
        · exact ⟨fun _ _ _ _ _ _ ⟨B, α, F, κ, ρ, _, _, q⟩ => False.elim q⟩
        · rename_i t s cs e own
          obtain ⟨tg, it, ifs, rfl, g1, g2, g3, g4, g5, g6, g7⟩ := comp_parts h2
          have key := ps_setLc (X := X) (i := i) (y := y) (py := py) (elt := elt) (tg := tg) (iter := it) (ifs := ifs) (scope := scope) (own := own.map fun i => (slotName Z.N i, i)) (pos := pos) (spos := p) (wi := iS X.K W (evSrc G s)) (g := gOf X.K t) (tt := tT X.K neverW (evC G cs)) (te := tE X.K neverW (ev G e))
            (c.calm (comp_cold h2)) (by rw [c.hN]; exact c.nd) hi (by rw [c.hsc]; exact h5) (sw_true (by rw [c.hsc]; exact h4) (by rw [c.hsc]; exact h5) h6 h7) (sSrc s c it tg g5) (blkOk_by (by rw [c.hN, c.hsc]; exact g1))
            (fun s0 H0 C cl fp => pg_of (X := X.blk s0 H0 scope (compEnvC scope cl C X.env) fp) (Z := Z.blk scope) (c.blk (comp_cold h2) scope s0 H0 C cl fp).hN (c.blk (comp_cold h2) scope s0 H0 C cl fp).hsc c.nd c.calm rfl t tg g4)
            (fun s0 H0 C cl fp => sC cs (c.blk (comp_cold h2) scope s0 H0 C cl fp) ifs g6) (fun s0 H0 C cl fp => sE e (c.blk (comp_cold h2) scope s0 H0 C cl fp) elt g7) (notSet_fold g2 X.env)
          rw [own_map] at key
          exact ps_imp key fun D σ H z => tE_comp g3 (s_asg (t := .nm i) z)
      · cases h3
  | .expr e, X, Z, k, W, G, c, st, h => by
    cases st <;> (first | (cases h; done) | skip)
    rename_i e' p
    unfold ckS at h
    simp only [Bool.and_eq_true] at h
    exact ps_imp (ps_expr (sE e c e' h.2) (notComp_sw h.1)) fun D σ H => s_expr
  | .ret e, X, Z, k, W, G, c, st, h => by
    cases st <;> (first | (cases h; done) | skip)
    rename_i e' p
    cases e' <;> (first | (cases h; done) | skip)
    exact ps_imp (ps_ret (sE e c _ h)) fun D σ H => s_ret
  | .retN, X, Z, k, W, G, c, st, h => by
    cases st <;> (first | (cases h; done) | skip)
    rename_i e' p
    cases e' <;> (first | (cases h; done) | skip)
    exact ps_imp ps_retN fun D σ H => s_retN
  | .ifs t a b, X, Z, k, W, G, c, st, h => by
    cases st <;> (first | (cases h; done) | skip)
    unfold ckS at h
    obtain ⟨h1, h2, h3⟩ := bnd3 h
    exact ps_imp (ps_if (sT t c _ h1) (sSs a c _ h2) (sSs b c _ h3)) fun D σ H => s_if
  | .for_ t s b, X, Z, k, W, G, c, st, h => by
    cases st <;> (first | (cases h; done) | skip)
    rename_i tg it b' els p
    rcases els with _ | ⟨_, _⟩ <;> (first | (cases h; done) | skip)
    unfold ckS at h
    simp only [Bool.and_eq_true] at h
    obtain ⟨⟨⟨⟨hz, h1⟩, h2⟩, h3⟩, h4⟩ := h
    exact ps_imp (ps_for (c.pass (cold hz)) (c.calm (cold hz)) (sSrc s c it tg h3) (pg_of c.hN c.hsc c.nd c.calm c.fn t tg h2) (sSs b c b' h4) (notSet_fold h1 X.env)) fun D σ H => s_for
  | .setI o i e, X, Z, k, W, G, c, st, h => by
    cases st <;> (first | (cases h; done) | skip)
    rename_i tgs e' p
    rcases tgs with _ | ⟨tg, _ | ⟨_, _⟩⟩ <;> (first | (cases h; done) | (cases tg <;> cases h; done) | skip)
    cases tg <;> (first | (cases h; done) | skip)
    rename_i o' i' q
    unfold ckS at h
    simp only [Bool.and_eq_true] at h
    obtain ⟨⟨⟨h1, h2⟩, h3⟩, h4⟩ := h
    refine ps_imp (ps_asg (sE e c e' h4) (pg_sub (sE o c o' h2) (sE i c i' h3) set_list ?_) (sub_sw (e := e') (a := o') (b := i') (p := q) (l := p.line) (env := X.env)) (by cases e' <;> rfl) rfl) fun D σ H => s_setI
    intro v
    cases i' <;> first | rfl | cases h1
  | .app o e, X, Z, k, W, G, c, st, h => by
    cases st <;> (first | (cases h; done) | skip)
    rename_i ce p
    cases ce <;> (first | (cases h; done) | skip)
    rename_i fe as kws cp
    cases fe <;> (first | (cases h; done) | skip)
    rename_i oe m ap
    cases oe <;> (first | (cases h; done) | skip)
    rename_i x xp
    rcases as with _ | ⟨e', _ | ⟨_, _⟩⟩ <;> rcases kws with _ | ⟨_, _⟩ <;> (first | (cases h; done) | skip)
    unfold ckS at h
    simp only [Bool.and_eq_true, decide_eq_true_eq] at h
    obtain ⟨⟨⟨⟨h1, h2⟩, h3⟩, h4⟩, h5⟩ := h
    subst h1
    have ha : PA X [e'] (tCons (tE X.K W (ev G e)) tNil) := pa_cons (sE e c e' h5) pa_nil (noStar_each h3)
    refine ps_imp (ps_expr (pe_bm PySem.F.plainAttrs_list PySem.F.slot_list_append PySem.F.type_list_append (mt_append) (sE o c _ h4) ha (by rfl) (by rw [noStar_each h3]; rfl) h2 (noStar_each h3) rfl) rfl) fun D σ H => s_app
  | .setA o f e, X, Z, k, W, G, c, st, h => by
    cases st <;> (first | (cases h; done) | skip)
    rename_i tgs e' p
    rcases tgs with _ | ⟨tg, _ | ⟨_, _⟩⟩ <;> (first | (cases h; done) | (cases tg <;> cases h; done) | skip)
    cases tg <;> (first | (cases h; done) | skip)
    rename_i o' f' q
    unfold ckS at h
    obtain ⟨h1, h2, h3⟩ := bnd3 h
    have e := of_decide_eq_true h1
    subst e
    exact ps_imp (ps_fld (sE o c o' h2) (sE e c e' h3) (by cases e' <;> rfl)) fun D σ H => s_setA (X := X) (G := G) fun cc hh => c.fld cc f' hh
  | .par i j a b, X, Z, k, W, G, c, st, h => by
    cases st <;> (first | (cases h; done) | skip)
    rename_i tgs e' p
    unfold ckS at h
    cases q : parOk Z i j tgs e' with
    | none => rw [q] at h; cases h
    | some ab =>
    rw [q] at h
    obtain ⟨a', b'⟩ := ab
    simp only [Bool.and_eq_true] at h
    obtain ⟨⟨hz, g13⟩, g14⟩ := h
    unfold parOk at q
    split at q
    · split at q
      · rename_i g
        cases q
        simp only [Bool.and_eq_true, decide_eq_true_eq, Bool.not_eq_true'] at g
        obtain ⟨⟨⟨⟨⟨⟨⟨⟨⟨⟨⟨g1, g2⟩, g3⟩, g4⟩, g5⟩, g6⟩, g7⟩, g8⟩, g9⟩, g10⟩, g11⟩, g12⟩ := g
        have ha : PA X [a', b'] (tCons (tE X.K W (ev G a)) (tCons (tE X.K W (ev G b)) tNil)) := pa_cons (sE a c a' g13) (pa_cons (sE b c b' g14) pa_nil (noStar_each g10)) (noStar_each g9)
        exact ps_imp (ps_par (c.calm (cold hz)) (by rw [c.hN]; exact c.nd) (by rw [c.hN]; exact g3) (by rw [c.hN]; exact g4) g1 (by rw [c.hsc]; exact g6) (by rw [c.hsc]; exact g7) ha (par_st (by rw [c.hsc]; exact g5) (by rw [c.hsc]; exact g6) (by rw [c.hsc]; exact g7) g8 g2 g9 g10 g11 g12) rfl) fun D σ H => s_par
      · cases q
    · cases q
  | .par3 i j l a b d, X, Z, k, W, G, c, st, h => by
    cases st <;> (first | (cases h; done) | skip)
    rename_i tgs e' p
    unfold ckS at h
    cases q : par3Ok Z i j l tgs e' with
    | none => rw [q] at h; cases h
    | some ab =>
    rw [q] at h
    obtain ⟨a', b', d'⟩ := ab
    simp only [Bool.and_eq_true] at h
    obtain ⟨⟨⟨hz, k1⟩, k2⟩, k3⟩ := h
    unfold par3Ok at q
    split at q
    · split at q
      · rename_i g
        cases q
        simp only [Bool.and_eq_true, decide_eq_true_eq, Bool.not_eq_true'] at g
        obtain ⟨⟨⟨⟨⟨⟨⟨⟨⟨⟨⟨⟨⟨⟨⟨⟨⟨⟨⟨g1, g2⟩, g3⟩, g4⟩, g5⟩, g6⟩, g7⟩, g8⟩, g9⟩, g10⟩, g11⟩, g12⟩, g13⟩, g14⟩, g15⟩, g16⟩, g17⟩, g18⟩, g19⟩, g20⟩ := g
        have ha : PA X [a', b', d'] (tCons (tE X.K W (ev G a)) (tCons (tE X.K W (ev G b)) (tCons (tE X.K W (ev G d)) tNil))) := pa_cons (sE a c a' k1) (pa_cons (sE b c b' k2) (pa_cons (sE d c d' k3) pa_nil (noStar_each g18)) (noStar_each g17)) (noStar_each g16)
        exact ps_imp (ps_par3 (c.calm (cold hz)) (by rw [c.hN]; exact c.nd) (by rw [c.hN]; exact g7) (by rw [c.hN]; exact g8) (by rw [c.hN]; exact g9) g1 g2 g3 (by rw [c.hsc]; exact g11) (by rw [c.hsc]; exact g12) (by rw [c.hsc]; exact g13) ha
          (par_st3 (by rw [c.hsc]; exact g10) (by rw [c.hsc]; exact g11) (by rw [c.hsc]; exact g12) (by rw [c.hsc]; exact g13) g14 g15 g4 g5 g6 g16 g17 g18 g19 g20) rfl) fun D σ H => s_par3
      · cases q
    · cases q
  | .setN o i j a b, X, Z, k, W, G, c, st, h => by
    cases st <;> (first | (cases h; done) | skip)
    rename_i tgs e' p
    rcases tgs with _ | ⟨tg, tr⟩ <;> (first | (cases h; done) | skip)
    cases tg <;> (first | (cases h; done) | skip)
    rename_i ts tk tp
    rcases ts with _ | ⟨t1, _ | ⟨t2, ts⟩⟩ <;> (first | (cases h; done) | (cases t1 <;> cases h; done) | skip)
    cases t1 <;> (first | (cases h; done) | skip)
    rename_i o' i' sp
    cases t2 <;> (first | (cases h; done) | skip)
    rename_i x px
    cases e' <;> rcases ts with _ | ⟨_, _⟩ <;> rcases tr with _ | ⟨_, _⟩ <;> (first | (cases h; done) | skip)
    rename_i vs vk vp
    rcases vs with _ | ⟨a', _ | ⟨b', _ | ⟨_, _⟩⟩⟩ <;> (first | (cases h; done) | skip)
    unfold ckS at h
    simp only [Bool.and_eq_true, decide_eq_true_eq] at h
    obtain ⟨⟨⟨⟨⟨⟨⟨⟨⟨hz, h1⟩, h2⟩, h3⟩, h4⟩, h5⟩, h6⟩, h7⟩, h8⟩, h9⟩ := h
    have hl : Loc X.env.scope x ∧ (X.fn x = true ∨ X.env.scope.names.lookup x = some .local) := by
      rw [c.hsc, c.fn]
      unfold locB at h3
      split at h3
      · exact ⟨.inl (by assumption), .inr (by assumption)⟩
      · exact ⟨.inr (by assumption), .inl h3⟩
      · cases h3
    have hv : PE X (.Tuple [a', b'] vk vp) (tE X.K W (ev G (.tup [a, b]))) := sE (.tup [a, b]) c _ (by
      show (noStar a' && ck Z a a' && (noStar b' && ck Z b b' && true)) = true
      rw [h4, h5, h8, h9]
      rfl)
    have hg := pg_tup (X := X) (k := tk) (pos := tp) (n := 2) (c.calm (cold hz)) (pgs_cons (pg_sub (pos := sp) (sE o c o' h6) (sE i c i' h7) set_list (by intro v; cases i' <;> first | rfl | cases h1)) (pgs_cons (pg_name (pos := px) (by rw [c.hN]; exact c.nd) (by rw [c.hN]; exact h2) hl.1 hl.2) pgs_nil rfl) rfl) rfl rfl
    exact ps_imp (ps_asg hv hg (by rfl) (sub_swap h4 h5) rfl) fun D σ H => s_setN
  | .raise cc es, X, Z, k, W, G, c, st, h => by
    cases st <;> (first | (cases h; done) | skip)
    rename_i ex cause p
    cases ex <;> (first | (cases h; done) | skip)
    rename_i ce
    cases ce <;> (first | (cases h; done) | skip)
    rename_i fe as kws cp
    cases fe <;> (first | (cases h; done) | skip)
    rename_i x px
    rcases as with _ | ⟨e', es'⟩ <;> rcases kws with _ | ⟨_, _⟩ <;> (first | (cases h; done) | skip)
    cases cause <;> (first | (cases h; done) | skip)
    unfold ckS at h
    simp only [Bool.and_eq_true, decide_eq_true_eq] at h
    obtain ⟨⟨⟨⟨hz, h1⟩, h2⟩, h3⟩, h4⟩ := h
    subst h1
    obtain ⟨ha, hs⟩ := sA es c (e' :: es') h4
    cases hx : G.xc x with
    | none =>
      refine ⟨fun _ _ _ _ _ _ ⟨B, α, F, κ, ρ, _, _, q⟩ => ?_⟩
      have q' : PostS X.K B W α F _ (match G.xc x with
        | some xi => (evL G es ρ κ).bindS ρ fun ds κ => if xi.ok ds = true then .ok (.exc x (xi.fs.zip ds).reverse ρ) κ else .bad
        | none => .bad) := q
      rw [hx] at q'
      exact False.elim q'
    | some xi =>
      obtain ⟨hk, hm, T, g, fd, ps, iC, tI, hb, F1⟩ := c.xc x xi hx
      have hse : noStar e' = true ∧ es'.all noStar = true := by simpa using hs
      refine ps_imp (ps_raise (c.calm (cold hz)) c.tk (pmk_oex (k := 1) (dvs := []) (ds := []) T iC tI F1 ((c.room (cold hz)).mono hk) hb .nil (passes_call c.tk fun _ _ _ _ z => z.elim) (gl_of c.hsc h2) hm ha (nameOk_of h3).1 (noStar_each hse.1) (back_all es' hse.2).2)) fun D σ H z => s_raise (De := D) (c := x) ?_
      obtain ⟨B, α, F, κ, ρ, S, E, q⟩ := z
      have q' : PostS X.K B W α F D (match G.xc x with
        | some xi => (evL G es ρ κ).bindS ρ fun ds κ => if xi.ok ds = true then .ok (.exc x (xi.fs.zip ds).reverse ρ) κ else .bad
        | none => .bad) := q
      rw [hx] at q'
      exact ⟨B, α, F, κ, ρ, S, E, q'⟩
  | .try_ b cc n hh, X, Z, k, W, G, c, st, h => by
    cases st <;> (first | (cases h; done) | skip)
    rename_i b' hs els fin p
    rcases hs with _ | ⟨⟨ht, hn', hb⟩, rr⟩ <;> (first | (cases h; done) | skip)
    cases ht <;> (first | (cases h; done) | skip)
    rename_i hp te
    cases te <;> (first | (cases h; done) | skip)
    rename_i x px
    rcases hb with _ | ⟨h0, h'⟩ <;> rcases rr with _ | ⟨_, _⟩ <;> rcases els with _ | ⟨_, _⟩ <;> rcases fin with _ | ⟨_, _⟩ <;> (first | (cases h; done) | skip)
    unfold ckS at h
    simp only [Bool.and_eq_true, decide_eq_true_eq] at h
    obtain ⟨⟨⟨⟨⟨⟨⟨hz, htop⟩, h1⟩, h2⟩, h3⟩, h4⟩, h5⟩, h6⟩ := h
    subst h1
    by_cases hN : G.kN x = true
    case neg =>
      refine ⟨fun _ _ _ _ _ _ ⟨B, α, F, κ, ρ, _, _, q⟩ => ?_⟩
      unfold evS at q
      rw [if_neg hN] at q
      exact False.elim q
    obtain ⟨k1, k2⟩ := c.stk htop
    have hnm := names_of (gl_of c.hsc h2) h3 (c.kN x hN)
    have hbd : ∀ (W' : WX) (pn : List (Addr × Obj)) (xe : Value → Shared → Prop), Takes (X.tr pn xe) W' → PassesOwn (model X.prog X.w) X.A X.env xe → PSs (X.tr pn xe) b' (tS X.K W' (evSs G b)) := fun W' pn xe tk ps => sSs b (c.tr (cold hz) pn xe tk ps) b' h5
    have hsu : ∀ (a : Addr) (oe : Obj) (cls : Value) (d : Option Addr) (pn : List (Addr × Obj)), Zc cls d oe → (∃ vs, oe.data = .fields vs) → PSs (X.suite a ((a, oe) :: pn)) (h0 :: h') (tsH X.K G hh a cls d) := fun a oe cls d pn hzc hf => by
      refine ⟨fun pins s σ H D I q => ?_⟩
      obtain ⟨dx, c', e1, e2, q⟩ := q
      subst e1 e2
      exact (sSs hh (c.suite pn hzc hf) (h0 :: h') h6).run pins s σ H D I q
    cases n with
    | none =>
      cases hn' with
      | none => exact ps_imp (ps_try_only k1 k2 hnm c.tk hbd hsu) fun D σ H => s_tryOnly c.kX
      | some _ => cases h4
    | some i =>
      cases hn' with
      | none => cases h4
      | some nm =>
        unfold hnB at h4
        simp only [Bool.and_eq_true, decide_eq_true_eq] at h4
        exact ps_imp (ps_try_as k1 k2 (by rw [c.hN]; exact c.nd) (by rw [c.hN]; exact h4.1) (by show X.env.scope.names.lookup nm = some .local; rw [c.hsc]; exact h4.2) hnm c.tk hbd hsu) fun D σ H => s_tryAs c.kX
  | .aug i e, X, Z, k, W, G, c, st, h => by
    cases st <;> (first | (cases h; done) | skip)
    rename_i tg op e' p
    cases tg <;> (first | (cases h; done) | skip)
    cases op <;> (first | (cases h; done) | skip)
    rename_i x px
    unfold ckS at h
    simp only [Bool.and_eq_true, decide_eq_true_eq] at h
    obtain ⟨⟨h1, h2⟩, h3⟩ := h
    have hl : Loc X.env.scope x ∧ (X.fn x = true ∨ X.env.scope.names.lookup x = some .local) := by
      rw [c.hsc, c.fn]
      unfold locB at h2
      split at h2
      · exact ⟨.inl (by assumption), .inr (by assumption)⟩
      · exact ⟨.inr (by assumption), .inl h2⟩
      · cases h2
    exact ps_imp (ps_aug (by rw [c.hN]; exact c.nd) (by rw [c.hN]; exact h1) hl.1 (sE e c e' h3) ip_add hl.2) fun D σ H => s_aug
theorem sSs : ∀ (ss : List S) {X : Cx} {Z : Sta} {k : Nat} {W : WX} {G : Gam} (c : Ctx X Z k W G) (sts : List Stmt), ckSs Z ss sts = true → PSs X sts (tS X.K W (evSs G ss))
  | [], X, Z, k, W, G, c, sts, h => by
    cases sts with
    | nil => exact pss_imp pss_nil fun D σ H => s_nil
    | cons _ _ => cases h
  | s :: ss, X, Z, k, W, G, c, sts, h => by
    cases sts with
    | nil => cases h
    | cons st sts =>
      unfold ckSs at h
      simp only [Bool.and_eq_true] at h
      exact pss_imp (pss_cons (sS s c st h.1) (sSs ss c sts h.2)) fun D σ H => s_seq
end
end I3

set_option Elab.async false
set_option linter.all false
set_option autoImplicit false
set_option maxRecDepth 100000
set_option maxHeartbeats 4000000
/-! I3n: an own exception's __init__. -/
namespace I3
open PySem PySem.Spec PyProof.Rows L2

def ckPts (ps : List Str) (sc : Scope) : List Pt → List Expr → Bool
  | [], [] => true
  | .s x :: pt, .Constant (.str x') _ _ :: es => decide (x' = x) && ckPts ps sc pt es
  | .v i :: pt, .FormattedValue (.Name p _) cv none _ :: es => decide (cv = -1) && decide (ps[i + 1]? = some p) && visB sc p && nameOk p && ckPts ps sc pt es
  | _, _ => false
def ckText (ps : List Str) (sc : Scope) : List Pt → Expr → Bool
  | pt, .JoinedStr es _ => decide (2 ≤ es.length) && ckPts ps sc pt es
  | [.s x], .Constant (.str x') _ _ => decide (x' = x)
  | _, _ => false
def ckSt (ps : List Str) (sc : Scope) : Nat → List Str → List Stmt → Bool
  | _, [], [] => true
  | i, f :: fs, .Assign [.Attribute (.Name s _) f' _] (.Name p _) _ :: sts => decide (ps[0]? = some s) && decide (f' = f) && decide (ps[i + 1]? = some p) && visB sc s && nameOk s && visB sc p && nameOk p && ckSt ps sc (i + 1) fs sts
  | _, _, _ => false
def ckInit (ps : List Str) (sc : Scope) (base : Str) (xi : XI) : List Stmt → Bool
  | .Expr (.Call (.Attribute (.Name b _) m ap) [.Name s _, te] [] cp) _ :: sts => decide (b = base) && decide (m = ("__init__" : Str)) && decide (ps[0]? = some s) && glB sc b && nameOk b && visB sc s && nameOk s && (ap.endLine == cp.line) && noStar te && ckText ps sc xi.pt te && ckSt ps sc 0 xi.fs sts && decide (xi.fs ≠ []) && decide (xi.fs.length ≤ 100)
  | _ => false

section
variable {X : Cx} {ps : List Str} {sc : Scope}
/-- the parts' readings -/
def ptT : Pt → TE
  | .s x => tC (.str x)
  | .v i => tFmt (tVar (i + 1))
theorem pj_of (hN : X.N = ps) (hsc : X.env.scope = sc) : ∀ (pt : List Pt) (es : List Expr), ckPts ps sc pt es = true → PJ X es (pt.map ptT)
  | [], es, h => by
    cases es with
    | nil => exact .nil
    | cons _ _ => cases h
  | .s x :: pt, es, h => by
    cases es with
    | nil => cases h
    | cons e es =>
      cases e <;> (first | (cases h; done) | skip)
      rename_i c n p
      cases c <;> (first | (cases h; done) | skip)
      unfold ckPts at h
      simp only [Bool.and_eq_true, decide_eq_true_eq] at h
      obtain ⟨rfl, h2⟩ := h
      exact .cons pe_str (pj_of hN hsc pt es h2)
  | .v i :: pt, es, h => by
    cases es with
    | nil => cases h
    | cons e es =>
      cases e <;> (first | (cases h; done) | skip)
      rename_i a cv fs p
      cases a <;> (first | (cases h; done) | skip)
      cases fs <;> (first | (cases h; done) | skip)
      rename_i x px
      unfold ckPts at h
      simp only [Bool.and_eq_true, decide_eq_true_eq] at h
      obtain ⟨⟨⟨⟨rfl, h2⟩, h3⟩, h4⟩, h5⟩ := h
      exact .cons (pe_fmt (pe_var (by rw [hN]; exact h2) (vis_of hsc h3) (nameOk_of h4).1 (nameOk_of h4).2)) (pj_of hN hsc pt es h5)
theorem ptJ {ws : List V} {σ : L2.St} {H : Hp} {Q : Str → Hp → Prop} (hσ : ∀ i v, ws[i]? = some v → σ[i + 1]? = some (some v)) (q : ∀ z, Q z H) : ∀ (pt : List Pt) (acc : Str), ptV ws pt acc → tJs (pt.map ptT) acc σ H Q
  | [], acc, _ => q acc
  | .s x :: pt, acc, h => ⟨x, rfl, h.1, ptJ hσ q pt _ h.2⟩
  | .v i :: pt, acc, h => by
    obtain ⟨y, h1, h2, h3⟩ := h
    rcases h1 with ⟨h1, h4⟩ | ⟨j, h1, h4, rfl⟩
    · exact ⟨_, hσ _ _ h1, .inl ⟨y, rfl, h4, y, rfl, h2, ptJ hσ q pt _ h3⟩⟩
    · exact ⟨_, hσ _ _ h1, .inr ⟨j, rfl, h4, _, rfl, h2, ptJ hσ q pt _ h3⟩⟩
/-- the text -/
def tTx (pt : List Pt) (e : Expr) : TE := match e with
  | .JoinedStr _ _ => fun σ H Q => tJs (pt.map ptT) Str.empty σ H fun out H1 => Q (.str out) H1
  | .Constant (.str x) _ _ => tC (.str x)
  | _ => fun _ _ _ => False
theorem pe_text (hN : X.N = ps) (hsc : X.env.scope = sc) {pt : List Pt} {e : Expr} (h : ckText ps sc pt e = true) : PE X e (tTx pt e) := by
  cases e <;> (first | (cases pt <;> cases h; done) | skip)
  · rename_i es p
    have h' : (decide (2 ≤ es.length) && ckPts ps sc pt es) = true := by
      cases pt <;> exact h
    rw [Bool.and_eq_true] at h'
    have hj := pj_of hN hsc pt es h'.2
    rcases es with _ | ⟨v1, _ | ⟨v2, r⟩⟩
    · exact absurd (of_decide_eq_true h'.1) (by decide)
    · exact absurd (of_decide_eq_true h'.1) (by show ¬ (2 ≤ 1); decide)
    · exact pe_joined hj
  · rename_i c n p
    cases c <;> (first | exact ⟨fun _ _ _ _ _ _ z => False.elim z⟩ | skip)
    exact pe_str
  all_goals exact ⟨fun _ _ _ _ _ _ z => False.elim z⟩
theorem tx_ok {ws : List V} {σ : L2.St} {H : Hp} {Q : VK} {pt : List Pt} {e : Expr} (h : ckText ps sc pt e = true) (hσ : ∀ i v, ws[i]? = some v → σ[i + 1]? = some (some v)) (hv : ptV ws pt Str.empty) (q : ∀ z, Q (.str z) H) : tTx pt e σ H Q := by
  cases e <;> (first | (rcases pt with _ | ⟨_ | _, _ | _⟩ <;> cases h; done) | skip)
  · exact ptJ hσ q pt _ hv
  · rename_i c n p
    cases c <;> (first | (rcases pt with _ | ⟨_ | _, _ | _⟩ <;> cases h; done) | skip)
    exact q _
/-- the stores -/
theorem pss_st (hN : X.N = ps) (hsc : X.env.scope = sc) {C : Addr} (T : OexC X.K C) : ∀ (fs : List Str) (i : Nat) (sts : List Stmt), ckSt ps sc i fs sts = true → (∀ f ∈ fs, PySem.W.findIn X.K (.ref C) f = some none) →
    ∃ t, PSs X sts t ∧ ∀ (ws : List V) (σ : L2.St) (a dx : Addr) (gs : List (Str × V)) (H : Hp) (D : Ends), σ[0]? = some (some (.ref a)) → (∀ j v, ws[j]? = some v → σ[j + 1]? = some (some v)) → i + fs.length = ws.length → gs.length + fs.length ≤ 101 → dx ≠ a →
      H a = some (exo a C (some dx)) → H dx = some (exd dx gs) → (∀ H', (∀ b, b ≠ a → b ≠ dx → H' b = H b) → H' a = some (exo a C (some dx)) → H' dx = some (exd dx ((fs.zip (ws.drop i)).reverse ++ gs)) → D.nx σ H') → t D σ H
  | [], i, sts, h, _ => by
    cases sts with
    | cons _ _ => cases h
    | nil => exact ⟨_, pss_nil, fun ws σ a dx gs H D h0 h1 h2 h3 hne h4 h5 q => q H (fun _ _ _ => rfl) h4 (by simpa using h5)⟩
  | f :: fs, i, sts, h, hno => by
    cases sts with
    | nil => cases h
    | cons st sts =>
      cases st <;> (first | (cases h; done) | skip)
      rename_i tgs e p
      rcases tgs with _ | ⟨tg, tr⟩ <;> (first | (cases h; done) | skip)
      cases tg <;> (first | (cases h; done) | skip)
      rename_i o f' pf
      cases o <;> (first | (cases h; done) | skip)
      rename_i s px
      cases e <;> rcases tr with _ | ⟨_, _⟩ <;> (first | (cases h; done) | skip)
      rename_i y py
      unfold ckSt at h
      simp only [Bool.and_eq_true, decide_eq_true_eq] at h
      obtain ⟨⟨⟨⟨⟨⟨⟨h1, rfl⟩, h3⟩, h4⟩, h5⟩, h6⟩, h7⟩, h8⟩ := h
      obtain ⟨t, ht, hr⟩ := pss_st hN hsc T fs (i + 1) sts h8 fun g hg => hno g (List.mem_cons_of_mem _ hg)
      have v1 : PE X (.Name s px) (tVar 0) := pe_var (by rw [hN]; exact h1) (vis_of hsc h4) (nameOk_of h5).1 (nameOk_of h5).2
      have v2 : PE X (.Name y py) (tVar (i + 1)) := pe_var (by rw [hN]; exact h3) (vis_of hsc h6) (nameOk_of h7).1 (nameOk_of h7).2
      refine ⟨_, pss_cons (ps_ost v1 v2) ht, fun ws σ a dx gs H D h0 hσ hl hg hne ha hd q => ?_⟩
      rw [List.length_cons] at hl hg
      obtain ⟨w, hw⟩ : ∃ w, ws[i]? = some w := ⟨ws[i]'(by omega), List.getElem?_eq_getElem (by omega)⟩
      refine ⟨w, hσ i w hw, .ref a, h0, a, C, rfl, T, hno _ List.mem_cons_self, .inr ⟨dx, gs, ha, hd, by omega, ?_⟩⟩
      refine hr ws σ a dx ((f', w) :: gs) _ D h0 hσ (by omega) (by rw [List.length_cons]; omega) hne (by rw [upd_ne (Ne.symm hne)]; exact ha) upd_same fun H' k1 k2 k3 => ?_
      refine q H' (fun b b1 b2 => by rw [k1 b b1 b2, upd_ne b2]) k2 ?_
      rw [k3]
      have e : ws.drop i = w :: ws.drop (i + 1) := by
        rw [List.drop_eq_getElem_cons (by omega)]
        rw [List.getElem?_eq_getElem (by omega)] at hw
        rw [Option.some.inj hw]
      rw [e, List.zip_cons_cons, List.reverse_cons, List.append_assoc]
      rfl
theorem pss_st1 (hN : X.N = ps) (hsc : X.env.scope = sc) {C : Addr} (T : OexC X.K C) {fs : List Str} {sts : List Stmt} (hne : fs ≠ []) (h : ckSt ps sc 0 fs sts = true) (hno : ∀ f ∈ fs, PySem.W.findIn X.K (.ref C) f = some none) :
    ∃ t, PSs X sts t ∧ ∀ (ws : List V) (σ : L2.St) (a : Addr) (H : Hp) (D : Ends), σ[0]? = some (some (.ref a)) → (∀ j v, ws[j]? = some v → σ[j + 1]? = some (some v)) → fs.length = ws.length → fs.length ≤ 100 →
      H a = some (exo a C none) → (∀ dx H', H dx = none → dx ≠ a → (∀ b, b ≠ a → b ≠ dx → H' b = H b) → H' a = some (exo a C (some dx)) → H' dx = some (exd dx (fs.zip ws).reverse) → D.nx σ H') → t D σ H := by
  cases fs with
  | nil => exact absurd rfl hne
  | cons f fs =>
    cases sts with
    | nil => cases h
    | cons st sts =>
      cases st <;> (first | (cases h; done) | skip)
      rename_i tgs e p
      rcases tgs with _ | ⟨tg, tr⟩ <;> (first | (cases h; done) | skip)
      cases tg <;> (first | (cases h; done) | skip)
      rename_i o f' pf
      cases o <;> (first | (cases h; done) | skip)
      rename_i s px
      cases e <;> rcases tr with _ | ⟨_, _⟩ <;> (first | (cases h; done) | skip)
      rename_i y py
      unfold ckSt at h
      simp only [Bool.and_eq_true, decide_eq_true_eq] at h
      obtain ⟨⟨⟨⟨⟨⟨⟨h1, rfl⟩, h3⟩, h4⟩, h5⟩, h6⟩, h7⟩, h8⟩ := h
      obtain ⟨t, ht, hr⟩ := pss_st hN hsc T fs (0 + 1) sts h8 fun g hg => hno g (List.mem_cons_of_mem _ hg)
      have v1 : PE X (.Name s px) (tVar 0) := pe_var (by rw [hN]; exact h1) (vis_of hsc h4) (nameOk_of h5).1 (nameOk_of h5).2
      have v2 : PE X (.Name y py) (tVar (0 + 1)) := pe_var (by rw [hN]; exact h3) (vis_of hsc h6) (nameOk_of h7).1 (nameOk_of h7).2
      refine ⟨_, pss_cons (ps_ost v1 v2) ht, fun ws σ a H D h0 hσ hl hg ha q => ?_⟩
      rw [List.length_cons] at hl hg
      obtain ⟨w, hw⟩ : ∃ w, ws[0]? = some w := ⟨ws[0]'(by omega), List.getElem?_eq_getElem (by omega)⟩
      refine ⟨w, hσ 0 w hw, .ref a, h0, a, C, rfl, T, hno _ List.mem_cons_self, .inl ⟨ha, fun dx hdx hda => ?_⟩⟩
      refine hr ws σ a dx [(f', w)] _ D h0 hσ (by omega) (by rw [List.length_singleton]; omega) hda upd_same (by rw [upd_ne hda]; exact upd_same) fun H' k1 k2 k3 => ?_
      refine q dx H' hdx hda (fun b b1 b2 => by rw [k1 b b1 b2, upd_ne b1, upd_ne b2]) k2 ?_
      rw [k3]
      cases ws with
      | nil => cases hw
      | cons w0 ws =>
        cases hw
        rw [List.zip_cons_cons, List.reverse_cons]
        rfl
/-- Base.__init__(self, text) -/
theorem pe_binit {b : Str} {e1 e2 : Expr} {xp ap pos : Pos} {ta : TA} {Cb : Addr} (hg : Gl X b) (hdb : (b == ("__debug__" : Str)) = false) (hm : X.mg b = some (.ref Cb)) (hr : ClX.CRead X.K Cb (.type "type"))
    (vV : PySem.W.findCls X.K (.ref Cb) (.type "type") "__init__" = some (.val (.builtin "ValueError.__init__"))) (hl : (ap.endLine == pos.line) = true) (n1 : noStar e1 = true) (n2 : noStar e2 = true) (ha : PA X [e1, e2] ta) :
    PE X (.Call (.Attribute (.Name b xp) "__init__" ap) [e1, e2] [] pos) (tVeI X.K ta) := by
  refine ⟨fun pins s σ H Q I h => ?_⟩
  have hs : [e1, e2].all noStar = true := by simp [n1, n2]
  have hform : methodCallForm ([e1, e2].length + ([] : List Keyword).length) (backTo pos (starEach [e1, e2] X.env)) (backToKw pos (keywordEach [] X.env)) = true := by
    unfold methodCallForm
    rw [(back_all [e1, e2] hs).1]
    rfl
  have hpos : methodCallPos true (.Name b xp) X.env ap pos = pure pos := by unfold methodCallPos; simp [hl]
  rw [arm_eval_Call]
  show wpAny _ _ (do let ov ← eval (.Name b xp) X.env; standAt ap.atName; methodCall (.Name b xp) "__init__" ap pos X.env ov ([e1, e2].length + ([] : List Keyword).length) (backTo pos (starEach [e1, e2] X.env)) (backToKw pos (keywordEach [] X.env))) _ _ _
  refine wpAny_bind (ld_glob I hg hm ?_ hdb)
  refine wpAny_bind (wpAny_standAt ?_)
  unfold methodCall
  rw [hform]
  refine wpAny_bind (wpAny_holding ?_)
  show wpAny _ _ (getMethod (.ref Cb) "__init__" _) _ _ _
  refine PySem.W.method_cls I.kIn hr.ga ?_
  refine PySem.W.cls_value I.kIn hr.rd vV (by decide +kernel) ?_
  refine wpAny_bind (wpAny_of_eq hpos ?_)
  show wpAny _ _ (callWith pos (Value.builtin "ValueError.__init__") [] (backTo pos (starEach [e1, e2] X.env)) []) _ _ _
  refine PyProof.Rows.callWith_method1 (thn (ha.run pos pins _ σ H _ (I.tok _) h) fun us s1 ⟨vs, H1, I1, r1, a, C, ws, ev, hl, T, ea, q⟩ => ?_) (noStar_each n1) (back_all [e2] (by simp [n2])).2
  subst ev
  cases r1 with
  | @cons _ u0 _ ur ra rw' =>
    obtain rfl : u0 = Value.ref a := ra
    have hlen : ur.length ≤ sizeLine := by
      rw [← Paired.length rw', sizeLine_eq]
      omega
    exact oinit_ok T I1 ea hlen fun s' J => ⟨.non, H1, J, rfl, q⟩
end
/-- THE RULE: an own exception's __init__ -/
theorem init_ok {P : Program} {w : World} {K : PySem.W.Frag} {mg : Str → Option Value} {base : Heap} {x qual b : Str} {params : Arguments} {body : List Stmt} {scope : Scope} {f : Addr} {fd : FuncData} {ps : List Str} {xi : XI} {C Cb : Addr}
    (FD : FunD K x qual params body scope [] [] f fd) (S : FnScope ps ps scope) (hlen : ps.length = xi.fs.length + 1) (hck : ckInit ps scope b xi body = true)
    (T : OexC K C) (hno : ∀ g ∈ xi.fs, PySem.W.findIn K (.ref C) g = some none) (hm : mg b = some (.ref Cb)) (hr : ClX.CRead K Cb (.type "type"))
    (vV : PySem.W.findCls K (.ref Cb) (.type "type") "__init__" = some (.val (.builtin "ValueError.__init__"))) : FnOk P w K mg base (L2.CX P w) 1 f fd ps (spI K C xi) := by
  refine FD.ok (k := 0) S (fun vs H Q E h => by rw [h.1, hlen]) fun cdv A outer s H vs Q E hroom h => ?_
  obtain ⟨hvl, a, ws, rfl, hwl, hw100, ha, hpt, q⟩ := h
  cases body with
  | nil => cases hck
  | cons st sts =>
    cases st <;> (first | (cases hck; done) | skip)
    rename_i ce p
    cases ce <;> (first | (cases hck; done) | skip)
    rename_i fe as kws cp
    cases fe <;> (first | (cases hck; done) | skip)
    rename_i oe m ap
    cases oe <;> (first | (cases hck; done) | skip)
    rename_i b' bp
    rcases as with _ | ⟨e1, _ | ⟨te, _ | ⟨_, _⟩⟩⟩ <;> rcases kws with _ | ⟨_, _⟩ <;> (first | (cases hck; done) | (cases e1 <;> cases hck; done) | skip)
    cases e1 <;> (first | (cases hck; done) | skip)
    rename_i s' sp
    unfold ckInit at hck
    simp only [Bool.and_eq_true, decide_eq_true_eq] at hck
    obtain ⟨⟨⟨⟨⟨⟨⟨⟨⟨⟨⟨⟨h1, h2⟩, h3⟩, h4⟩, h5⟩, h6⟩, h7⟩, h8⟩, h9⟩, h10⟩, h11⟩, h12⟩, h13⟩ := hck
    subst h1 h2
    let X : Cx := cxOf (L2.CX P w) P w K mg base ps qual scope f cdv A outer s H E
    have v1 : PE X (.Name s' sp) (tVar 0) := pe_var h3 (vis_of (sc := scope) rfl h6) (nameOk_of h7).1 (nameOk_of h7).2
    have v2 : PE X te (tTx xi.pt te) := pe_text (ps := ps) (sc := scope) rfl rfl h10
    have ha2 : PA X [.Name s' sp, te] (tCons (tVar 0) (tCons (tTx xi.pt te) tNil)) := pa_cons v1 (pa_cons v2 pa_nil (noStar_each h9)) rfl
    obtain ⟨t, ht, hr2⟩ := pss_st1 (X := X) (ps := ps) (sc := scope) rfl rfl T h12 h11 hno
    refine ⟨_, pss_cons (ps_expr (pe_binit (X := X) (gl_of (sc := scope) rfl h4) (nameOk_of h5).1 hm hr vV h8 rfl h9 ha2) rfl) ht, ?_⟩
    have hst : L2.start ps (V.ref a :: ws) = some (V.ref a) :: (ws.map some ++ List.replicate (ps.length - (ws.length + 1)) none) := rfl
    have hσ0 : (L2.start ps (V.ref a :: ws))[0]? = some (some (V.ref a)) := by rw [hst]; rfl
    have hσ : ∀ i v, ws[i]? = some v → (L2.start ps (V.ref a :: ws))[i + 1]? = some (some v) := fun i v e => by
      rw [hst]
      show (ws.map some ++ List.replicate (ps.length - (ws.length + 1)) none)[i]? = _
      have hi : i < ws.length := (List.getElem?_eq_some_iff.mp e).1
      rw [List.getElem?_append_left (by rw [List.length_map]; exact hi), List.getElem?_map, e]
      rfl
    refine ⟨.ref a, hσ0, tx_ok (ps := ps) (sc := scope) h10 hσ hpt fun z => ?_⟩
    refine ⟨a, C, [.str z], rfl, by show 1 ≤ 1000; decide, T, ha, ?_⟩
    exact hr2 ws _ a H _ hσ0 hσ hwl.symm h13 ha fun dx H' k1 k2 k3 k4 k5 => q dx H' k1 k2 k3 k4 k5
end I3

set_option Elab.async false
set_option linter.all false
set_option autoImplicit false
set_option maxRecDepth 100000
set_option maxHeartbeats 4000000
/-! I3o: the table of defs. -/
namespace I3
open PySem PySem.Spec PyProof.Rows L2

/-- where a def stands: a global's name; a static method of a class -/
inductive Loc where
  | glo (x : Str)
  | sta (c m : Str)
  | mth (c m : Str)
  | prp (c f : Str)
def staP (K : PySem.W.Frag) (c m : Str) : Addr := match PySem.W.findCls K (.ref (He.ga K c)) (.type "type") m with
  | some (.get _ (.ref p) _ _) => p
  | _ => 0
def staG (K : PySem.W.Frag) (c m : Str) : Addr := match PySem.W.recIn K (staP K c m) "staticmethod" with
  | some (.ref g :: _) => g
  | _ => 0
def prpP (K : PySem.W.Frag) (c f : Str) : Addr := He.ma K (He.ga K c) f
def prpG (K : PySem.W.Frag) (c f : Str) : Addr := match PySem.W.recIn K (prpP K c f) "property" with
  | some (.ref g :: _) => g
  | _ => 0
def Loc.ad (K : PySem.W.Frag) : Loc → Addr
  | .glo x => He.ga K x
  | .sta c m => staG K c m
  | .mth c m => He.ma K (He.ga K c) m
  | .prp c f => prpG K c f
/-- the key by which it is called -/
def Loc.key : Loc → Str
  | .glo x => x
  | .sta c m => c ++ "." ++ m
  | .mth c m => c ++ "." ++ m
  | .prp c m => c ++ "." ++ m
/-- its own name -/
def Loc.own : Loc → Str
  | .glo x => x
  | .sta _ m => m
  | .mth _ m => m
  | .prp _ m => m
/-- a def of the text, and its form without places -/
structure DefI where
  loc : Loc
  args : Arguments
  body : List Stmt
  scope : Scope
  ps : List Str
  N : List Str
  fs : List Str
  ss : List (Str × Str) := []
  fn : Fn
def DefI.nm (d : DefI) : Str := d.loc.key
def DefI.sta (d : DefI) : Sta := { fnB := fun _ => true, N := d.N, sc := d.scope, fs := d.fs, ss := d.ss }
def parB (sc : Scope) (x : Str) : Bool := match sc.names.lookup x with
  | some .local => true
  | some .cell => true
  | _ => false
def DefI.scB (d : DefI) : Bool :=
  decide (d.scope.kind = .function) && !d.scope.isCoroutine && !d.scope.isGenerator && decide d.N.Nodup && decide (d.N.take d.ps.length = d.ps) && d.ps.all (parB d.scope) && d.scope.names.all (fun y => decide (y.2 ≠ .free)) &&
  decide (d.N.length = d.fn.slots) && decide (d.ps.length = d.fn.params) && d.fn.dfl.all flatD && decide (d.fn.dfl.length ≤ d.ps.length)
def DefI.chk (d : DefI) : Bool := d.scB && ckSs d.sta d.fn.body d.body
theorem DefI.scope_ok {d : DefI} (h : d.scB = true) : FnScope d.N d.ps d.scope ∧ d.N.length = d.fn.slots ∧ d.ps.length = d.fn.params ∧ (∀ x ∈ d.fn.dfl, flatD x = true) ∧ d.fn.dfl.length ≤ d.ps.length := by
  unfold DefI.scB at h
  simp only [Bool.and_eq_true, decide_eq_true_eq, Bool.not_eq_true', List.all_eq_true] at h
  obtain ⟨⟨⟨⟨⟨⟨⟨⟨⟨⟨h1, h2⟩, h3⟩, h4⟩, h5⟩, h6⟩, h7⟩, h8⟩, h9⟩, h10⟩, h11⟩ := h
  refine ⟨⟨h1, h2, h3, h4, h5, fun x hx => ?_, h7⟩, h8, h9, h10, h11⟩
  have := h6 x hx
  unfold parB at this
  split at this
  · exact .inl (by assumption)
  · exact .inr (by assumption)
  · cases this
section
variable {prog : Program} {w : World} {K : PySem.W.Frag} {mg : Str → Option Value} {base : Heap} {P : Pgm}
theorem run_zero {f : Str} {ds : List D} {κ : Store} : I3.run0 P 0 f ds κ = Res.bad := rfl
theorem run_succ {n : Nat} {f : Str} {d : Fn} (h : P.fn f = some d) {ds : List D} {κ : Store} : I3.run0 P (n + 1) f ds κ = if (d.fill ds).length = d.params then
        (evSs (P.gam n) d.body ((d.fill ds).map some ++ List.replicate (d.slots - d.params) none) κ).nox.bind (endD κ.length d.mode)
      else .bad := by
  have e : I3.run0 P (n + 1) f ds κ = (match P.fn f with
    | none => (Res.bad : Res D)
    | some d => if (d.fill ds).length = d.params then
        (evSs (P.gam n) d.body ((d.fill ds).map some ++ List.replicate (d.slots - d.params) none) κ).nox.bind (endD κ.length d.mode)
      else .bad) := by
    rfl
  rw [e, h]
theorem fill_len {d : Fn} {ds : List D} : (d.fill ds).length = ds.length + (d.dfl.length - (d.dfl.length + ds.length - d.params)) := by
  unfold Fn.fill
  rw [List.length_append, List.length_drop]
theorem fill_full {d : Fn} {ds : List D} (h : ds.length = d.params) : d.fill ds = ds := by
  unfold Fn.fill
  rw [List.drop_eq_nil_of_le (by omega), List.append_nil]
theorem flat_repL {K : PySem.W.Frag} {α : List Addr} {F : Hp} : ∀ {ds : List D}, (∀ x ∈ ds, flatD x = true) → RepL K α F ds (ds.map vOf)
  | [], _ => RepL.nil
  | d :: ds, h => by
    refine RepL.cons ?_ (flat_repL fun x hx => h x (List.mem_cons_of_mem _ hx))
    have := h d List.mem_cons_self
    cases d <;> first | rfl | cases this
theorem flat_len {ds : List D} : (ds.map vOf).length = ds.length := List.length_map _
/-- the arguments that a def takes -/
theorem args_ok {K : PySem.W.Frag} {fd : FuncData} {ps : List Str} {n : Nat} {f : Str} {d : Fn} (h : P.fn f = some d) (hp : ps.length = d.params) (hfl : ∀ x ∈ d.dfl, flatD x = true) (hle : d.dfl.length ≤ ps.length)
    (hb : ∀ j ≤ d.dfl.length, ∃ us, Vals ((d.dfl.map vOf).drop j) us ∧ Binds K fd ps us) : ArgsOk K fd ps (I3.run0 P n f) := by
  intro m
  by_cases hm : m ≤ ps.length ∧ ps.length ≤ m + d.dfl.length
  · right
    obtain ⟨us, h1, h2⟩ := hb (d.dfl.length + m - d.params) (by omega)
    refine ⟨d.dfl.drop (d.dfl.length + m - d.params), _, us, ?_, ?_, h1, h2, fun ds κ hd => ?_⟩
    · rw [List.length_drop]
      omega
    · intro α F
      rw [← List.map_drop]
      exact flat_repL fun x hx => hfl x (List.mem_of_mem_drop hx)
    · subst hd
      have e : d.fill (ds ++ d.dfl.drop (d.dfl.length + ds.length - d.params)) = d.fill ds := by
        rw [fill_full (by rw [List.length_append, List.length_drop]; omega)]
        rfl
      cases n with
      | zero => rfl
      | succ n => rw [run_succ h, run_succ h, e]
  · left
    intro ds κ hd
    subst hd
    cases n with
    | zero => rfl
    | succ n =>
      rw [run_succ h, if_neg]
      rw [fill_len]
      omega
theorem key_init (c : Str) : Loc.key (.mth c "__init__") = c ++ ".__init__" := by
  show c ++ Str.ofString "." ++ Str.ofString "__init__" = c ++ Str.ofString ".__init__"
  obtain ⟨a⟩ := c
  show Str.mk _ = Str.mk _
  rw [show (Str.ofString ".__init__").cps = (Str.ofString ".").cps ++ (Str.ofString "__init__").cps by decide +kernel, ← Array.append_assoc]
  rfl
theorem repE_start {α : List Addr} {F : Hp} {N : List Str} {ds : List D} {vs : List V} (r : RepL K α F ds vs) : RepE K α F (ds.map some ++ List.replicate (N.length - ds.length) none) (L2.start N vs) where
  len := by
    unfold L2.start
    rw [List.length_append, List.length_append, List.length_map, List.length_map, List.length_replicate, List.length_replicate, r.length]
  at_ := fun i d e => by
    have hi : i < ds.length := by
      by_cases h : i < ds.length
      · exact h
      · rw [List.getElem?_append_right (by rw [List.length_map]; omega)] at e
        have := List.mem_of_getElem? e
        rw [List.mem_replicate] at this
        exact nomatch this.2
    rw [List.getElem?_append_left (by rw [List.length_map]; exact hi), List.getElem?_map] at e
    cases q : ds[i]? with
    | none => rw [q] at e; cases e
    | some d' =>
      rw [q] at e
      cases e
      obtain ⟨v, h1, h2⟩ := r.get q
      refine ⟨v, ?_, h2⟩
      unfold L2.start
      rw [List.getElem?_append_left (by rw [List.length_map, ← r.length]; exact hi), List.getElem?_map, h1]
      rfl
theorem defs_ok (tab : List DefI) (hchk : ∀ d ∈ tab, d.chk = true) (hfn : ∀ d ∈ tab, P.fn d.nm = some d.fn) (hcl : ∀ d ∈ tab, (∀ f ∈ d.fs, ∃ e ∈ tab, e.loc = .glo f) ∧ ∀ q ∈ d.ss, ∃ e ∈ tab, e.loc = .sta q.1 q.2)
    (hF : ∀ d ∈ tab, ∃ fd, FunD K d.loc.own d.nm d.args d.body d.scope (d.fn.dfl.map vOf) [] (d.loc.ad K) fd ∧ ∀ j ≤ d.fn.dfl.length, ∃ us, Vals ((d.fn.dfl.map vOf).drop j) us ∧ Binds K fd d.ps us)
    (hm : ∀ d ∈ tab, ∀ x, d.loc = .glo x → mg x = some (.ref (He.ga K x)))
    (hs : ∀ d ∈ tab, ∀ c m, d.loc = .sta c m → mg c = some (.ref (He.ga K c)) ∧ ClX.CRead K (He.ga K c) (.type "type") ∧ CSta K (He.ga K c) m (staP K c m) (staG K c m))
    (hcat : ∀ x a dd, P.cat x a = some dd → ∃ C u v, mg x = some (.ref C) ∧ ClX.CRead K C (.type "type") ∧ ClX.CVal K C (.type "type") a v u ∧ ∀ α F, Rep K α F dd v)
    (hfld : ∀ c f, P.att c f = .fld → Cls K (He.ga K c) ∧ NoAttr K (He.ga K c) f)
    (hcon : ∀ c f d, P.att c f = .con d → Cls K (He.ga K c) ∧ ∃ u v, Con K (He.ga K c) f v u ∧ ∀ α F, Rep K α F d v)
    (hprp : ∀ c f, P.att c f = .prop → Cls K (He.ga K c) ∧ ∃ p, ∃ e ∈ tab, e.loc = .prp c f ∧ PropOf K (He.ga K c) f p (e.loc.ad K))
    (hmth : ∀ c m, P.isM c m = true → Cls K (He.ga K c) ∧ ∃ e ∈ tab, e.loc = .mth c m ∧ Meth K (He.ga K c) m (e.loc.ad K))
    (hmk : ∀ c, P.isC c = true → mg c = some (.ref (He.ga K c)) ∧ ∃ e ∈ tab, e.loc = .mth c "__init__" ∧ Mk K (He.ga K c) (e.loc.ad K))
    (hkC : ∀ c, P.kC c = true → mg c = some (.ref (He.ga K c)))
    (hkI : ∀ c t b, P.kI c t = some b → PySem.W.kitOne K (.ref (He.ga K c)) (.type t.nm) = some b ∧ InsC K (He.ga K c))
    (hkB : ∀ n c b, P.kB n c = some b → PySem.W.kitOne K (.type n) (.ref (He.ga K c)) = some b)
    (hkO : ∀ a c b, P.kO a c = some b → PySem.W.kitOne K (.ref (He.ga K a)) (.ref (He.ga K c)) = some b ∧ InsC K (He.ga K a))
    (hxc : ∀ c xi, P.xc c = some xi → mg c = some (.ref (He.ga K c)) ∧ OexC K (He.ga K c) ∧ ∃ g fd ps, PySem.W.findIn K (.ref (He.ga K c)) "__init__" = some (some (.ref g)) ∧ PySem.W.typeIn K (.ref g) = some (.type "function") ∧ Binds K fd ps [] ∧ FnOk prog w K mg base (L2.CX prog w) 1 g fd ps (spI K (He.ga K c) xi))
    (hkX : ∀ c y b, P.kX c y = some b → PySem.W.exmOne K (.ref (He.ga K c)) (clsV K y) = some b)
    (hkN : ∀ y, P.kN y = true → (mg y = some (clsV K y) ∧ clsV K y = .ref (He.ga K y)) ∨ (mg y = none ∧ y = ("ValueError" : Str) ∧ clsV K y = .type "ValueError"))
    (hkY : ∀ c y b, P.kY c y = some b → ((mg y = some (clsV K y) ∧ clsV K y = .ref (He.ga K y)) ∨ (mg y = none ∧ y = ("ValueError" : Str) ∧ clsV K y = .type "ValueError")) ∧ PySem.W.kitOne K (.ref (He.ga K c)) (clsV K y) = some b ∧ ExcK K (He.ga K c))
    (hkE : ∀ c, P.kE c = true → EqC K (He.ga K c))
    (hxa : ∀ c f, P.xa c f = true → XfC K (He.ga K c) ∧ PySem.W.findIn K (.ref (He.ga K c)) f = some none)
    (hg : ∀ x dd, P.glob x = some dd → ∃ u v, mg x = some u ∧ RelV v u ∧ ∀ α F, Rep K α F dd v) (hb : ∀ x ∈ bltNames, mg x = none) :
    ∀ (n : Nat), ∀ m ≤ n, ∀ d ∈ tab, ∀ fd, FunD K d.loc.own d.nm d.args d.body d.scope (d.fn.dfl.map vOf) [] (d.loc.ad K) fd → FnOk prog w K mg base (L2.CX prog w) m (d.loc.ad K) fd d.ps (spC K d.ps.length (I3.run0 P m d.nm)) := by
  intro n
  induction n with
  | zero =>
    intro m hm0 d hd fd FD
    obtain rfl : m = 0 := Nat.le_zero.mp hm0
    refine ⟨fun vs H Q E h => h.1, fun A outer s H args us vs Q E hr e0 hb' hv hs => ?_⟩
    obtain ⟨_, B, α, F, κ, ds, _, _, q⟩ := hs
    exact False.elim q
  | succ n ih0 =>
    intro m hmn d hd fd FD
    by_cases hle : m ≤ n
    · exact ih0 m hle d hd fd FD
    obtain rfl : m = n + 1 := by omega
    have ih := ih0 n (Nat.le_refl n)
    have at_ : ∀ (j : Nat), j ≤ n → ∀ e ∈ tab, ∀ X : Cx, X.prog = prog → X.w = w → X.K = K → X.mg = mg → X.base = base → FnAt X j (e.loc.ad K) (I3.run0 P j e.nm) := by
      intro j hj e he X x1 x2 x3 x4 x5
      subst x1 x2 x3 x4 x5
      obtain ⟨fd', F', b'⟩ := hF e he
      have hce := hchk e he
      unfold DefI.chk at hce
      simp only [Bool.and_eq_true] at hce
      obtain ⟨_, _, hPe, hfl, hle⟩ := DefI.scope_ok hce.1
      exact ⟨fd', e.ps, F'.kp, ih0 j hj e he fd' F', args_ok (hfn e he) hPe hfl hle b'⟩
    have hc := hchk d hd
    unfold DefI.chk at hc
    simp only [Bool.and_eq_true] at hc
    obtain ⟨sc, hN, hP, _⟩ := DefI.scope_ok hc.1
    refine FD.ok sc (fun vs H Q E h => h.1) (fun cdv A outer s H vs Q E hr h => ?_)
    obtain ⟨hl, B, α, F, κ, ds, T, r, q⟩ := h
    have hX : Ctx (cxOf (L2.CX prog w) prog w K mg base d.N d.nm d.scope (d.loc.ad K) cdv A outer s H E) d.sta n (fun c x _ H' => E c x H') (P.gam n) := {
      hN := rfl
      hsc := rfl
      nd := sc.nd
      calm := fun _ => rfl
      room := fun _ => hr
      un := hr.units
      stk := fun _ => ⟨rfl, rfl⟩
      xc := fun cc xi h => by
        rcases n with _ | _ | n
        · cases h
        · cases h
        · obtain ⟨z1, z2, g, fd2, ps2, z3, z4, z5, z6⟩ := hxc cc xi h
          exact ⟨by omega, z1, z2, g, fd2, ps2, z3, z4, z5, z6⟩
      kX := hkX
      kN := hkN
      kY := fun cc y b h => ⟨_, (hkY cc y b h).1, (hkY cc y b h).2.1, (hkY cc y b h).2.2⟩
      xa := hxa
      exn := fun a dx cc h => by cases h
      tk := takes_of rfl rfl rfl rfl
      pass := fun _ => passes_of (X := cxOf (L2.CX prog w) prog w K mg base d.N d.nm d.scope (d.loc.ad K) cdv A outer s H E) (K := fun e s'' => L2.CX prog w outer H s E e s'') rfl
      fn := rfl
      glob := hg
      cat := hcat
      blt := hb
      call := fun f hf => by
        obtain ⟨e, he, hl⟩ := (hcl d hd).1 f hf
        obtain ⟨fd', F', b'⟩ := hF e he
        have hce := hchk e he
        unfold DefI.chk at hce
        simp only [Bool.and_eq_true] at hce
        obtain ⟨_, _, hPe, hfl, hle⟩ := DefI.scope_ok hce.1
        have hnm : e.nm = f := by unfold DefI.nm; rw [hl]; rfl
        have had : e.loc.ad K = He.ga K f := by rw [hl]; rfl
        have ok := ih e he fd' F'
        rw [hnm, had] at ok
        have kp := F'.kp
        rw [had] at kp
        exact ⟨_, hm e he f hl, ⟨fd', e.ps, kp, ok, args_ok (hnm ▸ hfn e he) hPe hfl hle b'⟩⟩
      fld := hfld
      kC := hkC
      kI := hkI
      kB := hkB
      kO := hkO
      con := hcon
      low := fun cc f h => by
        obtain ⟨h1, p, e, he, hl, h2⟩ := hprp cc f h
        have hnm : e.nm = cc ++ "." ++ f := by unfold DefI.nm; rw [hl]; rfl
        refine ⟨h1, p, _, h2, ?_⟩
        cases n with
        | zero => exact .inl rfl
        | succ j =>
          have := at_ j (Nat.le_succ j) e he (cxOf (L2.CX prog w) prog w K mg base d.N d.nm d.scope (d.loc.ad K) cdv A outer s H E) rfl rfl rfl rfl rfl
          rw [hnm] at this
          exact .inr ⟨j, rfl, this⟩
      meth := fun cc m h => by
        obtain ⟨h1, e, he, hl, h2⟩ := hmth cc m h
        have hnm : e.nm = cc ++ "." ++ m := by unfold DefI.nm; rw [hl]; rfl
        have := at_ n (Nat.le_refl n) e he (cxOf (L2.CX prog w) prog w K mg base d.N d.nm d.scope (d.loc.ad K) cdv A outer s H E) rfl rfl rfl rfl rfl
        rw [hnm] at this
        refine ⟨h1, _, h2, this, ?_, ?_⟩
        · cases n with
          | zero => exact .inl rfl
          | succ j =>
            have := at_ j (Nat.le_succ j) e he (cxOf (L2.CX prog w) prog w K mg base d.N d.nm d.scope (d.loc.ad K) cdv A outer s H E) rfl rfl rfl rfl rfl
            rw [hnm] at this
            exact .inr ⟨j, rfl, this⟩
        · rcases n with _ | _ | j
          · exact .inl (by omega)
          · exact .inl (by omega)
          · have := at_ j (by omega) e he (cxOf (L2.CX prog w) prog w K mg base d.N d.nm d.scope (d.loc.ad K) cdv A outer s H E) rfl rfl rfl rfl rfl
            rw [hnm] at this
            exact .inr ⟨j, rfl, this⟩
      lo20 := fun h0 f ds κ => by
        rcases n with _ | _ | n
        · rfl
        · rfl
        · omega
      kE := hkE
      make := fun cc h => by
        obtain ⟨h1, e, he, hl, h2⟩ := hmk cc h
        have hnm : e.nm = cc ++ ".__init__" := by unfold DefI.nm; rw [hl]; exact key_init cc
        refine ⟨h1, _, h2, ?_⟩
        cases n with
        | zero => exact .inl rfl
        | succ j =>
          have := at_ j (Nat.le_succ j) e he (cxOf (L2.CX prog w) prog w K mg base d.N d.nm d.scope (d.loc.ad K) cdv A outer s H E) rfl rfl rfl rfl rfl
          rw [hnm] at this
          exact .inr ⟨j, rfl, this⟩
      low0 := fun h0 f ds κ => by
        subst h0
        rfl
      scall := fun q hq => by
        obtain ⟨e, he, hl⟩ := (hcl d hd).2 q hq
        obtain ⟨fd', F', b'⟩ := hF e he
        have hce := hchk e he
        unfold DefI.chk at hce
        simp only [Bool.and_eq_true] at hce
        obtain ⟨_, _, hPe, hfl, hle⟩ := DefI.scope_ok hce.1
        have hnm : e.nm = q.1 ++ "." ++ q.2 := by unfold DefI.nm; rw [hl]; rfl
        have had : e.loc.ad K = staG K q.1 q.2 := by rw [hl]; rfl
        have ok := ih e he fd' F'
        rw [hnm, had] at ok
        have kp := F'.kp
        rw [had] at kp
        obtain ⟨s1, s2, s3⟩ := hs e he q.1 q.2 hl
        exact ⟨_, _, _, s1, s2, s3, ⟨fd', e.ps, kp, ok, args_ok (hnm ▸ hfn e he) hPe hfl hle b'⟩⟩ }
    refine ⟨_, sSs d.fn.body hX d.body hc.2, ?_⟩
    have hlen : ds.length = d.fn.params := by rw [← hP, ← hl, r.length]
    have hrho : ds.map some ++ List.replicate (d.fn.slots - d.fn.params) none = ds.map some ++ List.replicate (d.N.length - ds.length) none := by rw [hN, hlen]
    rw [run_succ (hfn d hd), fill_full hlen, if_pos hlen, hrho] at q
    refine ⟨B, α, F, κ, _, T, repE_start r, ?_⟩
    rw [← T.len] at q
    revert q
    cases evSs (P.gam n) d.fn.body (ds.map some ++ List.replicate (d.N.length - ds.length) none) κ with
    | bad => exact fun q => q
    | exc c fs κ1 => exact fun q => q
    | ok f κ1 =>
      intro q
      rw [Res.nox_ok, Res.bind_ok] at q
      cases f with
      | next ρ => exact fun σ' H' α' F' a f T' _ => post_fin q T' a f rfl
      | ret x => exact fun v H' α' F' a f T' r' => post_fin q T' a f r'
      | brk ρ => exact False.elim q
      | cont ρ => exact False.elim q
      | exc c fs ρ =>
        intro σ' α1 F1 a1 f1 _ dx us H' α' F' a f T' hx rf
        unfold endD at q
        dsimp only at q
        split at q
        · exact q dx us H' α' F' (a1.trans a) (f1.trans f) T' hx rf
        · split at q
          · rename_i c2
            simp only [Bool.and_eq_true] at c2
            have T2 := T'.cut (S := fun _ => False) α.length (fun _ h => h.elim) c2.2
            exact q dx us H' _ _ (aext_take (a1.trans a)) ((f1.trans f).trans frz_ext) T2 (frz_ext.xds _ _ hx) ((rf.takeA c2.1).mono (AExt.refl _) frz_ext)
          · exact False.elim q
end
end I3

set_option Elab.async false
set_option linter.all false
set_option autoImplicit false
set_option maxRecDepth 100000
set_option maxHeartbeats 4000000
/-! I3p: what the head tells: the defs, constants; a law's end. -/
namespace I3
open PySem PySem.Spec PyProof.Rows L2

/-! ### data of the top -/
mutual
/-- the value stands for the datum, over what is looked at -/
def repB (K : PySem.W.Frag) : D → Value → Bool
  | .non, .none => true
  | .bl b, .bool c => b == c
  | .int i, .int j _ => decide (i = j)
  | .str x, .str y _ => decide (x = y)
  | .gl x, .ref a => decide (a = He.ga K x)
  | .tup ds, .ref a => (match K.lookup a with
    | some ⟨.type c, _, .seq its _, _⟩ => decide (c = "tuple") && (decide (its.size ≤ sizeLine) && repLB K ds its.toList)
    | _ => false)
  | .lst ds, .ref a => (match K.lookup a with
    | some ⟨.type c, none, .seq its _, _⟩ => decide (c = "list") && (decide (its.size ≤ sizeLine) && repLB K ds its.toList)
    | _ => false)
  | _, _ => false
def repLB (K : PySem.W.Frag) : List D → List Value → Bool
  | [], [] => true
  | d :: ds, u :: us => repB K d u && repLB K ds us
  | _, _ => false
end
mutual
theorem repB_ok {K : PySem.W.Frag} : ∀ {d : D} {u : Value}, repB K d u = true → ∃ v, RelV v u ∧ ∀ α F, Rep K α F d v
  | .non, u, h => by
    cases u <;> (first | (cases h; done) | skip)
    exact ⟨.non, rfl, fun _ _ => rfl⟩
  | .bl b, u, h => by
    cases u <;> (first | (cases h; done) | skip)
    rename_i c
    have e : b = c := eq_of_beq h
    subst e
    exact ⟨.bl b, rfl, fun _ _ => rfl⟩
  | .int i, u, h => by
    cases u <;> (first | (cases h; done) | skip)
    rename_i j t
    have e : i = j := of_decide_eq_true h
    subst e
    exact ⟨.int i, ⟨t, rfl⟩, fun _ _ => rfl⟩
  | .str i, u, h => by
    cases u <;> (first | (cases h; done) | skip)
    rename_i j t
    have e : i = j := of_decide_eq_true h
    subst e
    exact ⟨.str i, ⟨t, rfl⟩, fun _ _ => rfl⟩
  | .gl x, u, h => by
    cases u <;> (first | (cases h; done) | skip)
    rename_i a
    have e : a = He.ga K x := of_decide_eq_true h
    subst e
    exact ⟨.ref _, rfl, fun _ _ => rfl⟩
  | .tup ds, u, h => by
    cases u <;> (first | (cases h; done) | skip)
    rename_i a
    unfold repB at h
    cases q : K.lookup a with
    | none => rw [q] at h; cases h
    | some o =>
      obtain ⟨oc, od, dt, osl⟩ := o
      rw [q] at h
      cases oc with
      | type c =>
        cases dt with
        | seq its n =>
          obtain ⟨h1, h2⟩ := He.ba (show (decide (c = "tuple") && (decide (its.size ≤ sizeLine) && repLB K ds its.toList)) = true from h)
          obtain ⟨h3, h4⟩ := He.ba h2
          obtain ⟨vs, h5, h6⟩ := repLB_ok h4
          refine ⟨.ref a, rfl, fun α F => ?_⟩
          unfold Rep
          exact ⟨a, vs, rfl, .inr ⟨_, its, n, q, congrArg Value.type (of_decide_eq_true h1), rfl, of_decide_eq_true h3, h5⟩, h6 α F⟩
        | _ => cases h
      | _ => cases dt <;> cases h
  | .lst ds, u, h => by
    cases u <;> (first | (cases h; done) | skip)
    rename_i a
    unfold repB at h
    cases q : K.lookup a with
    | none => rw [q] at h; cases h
    | some o =>
      obtain ⟨oc, od, dt, osl⟩ := o
      rw [q] at h
      cases oc with
      | type c =>
        cases od with
        | none =>
          cases dt with
          | seq its n =>
            obtain ⟨h1, h2⟩ := He.ba (show (decide (c = "list") && (decide (its.size ≤ sizeLine) && repLB K ds its.toList)) = true from h)
            obtain ⟨h3, h4⟩ := He.ba h2
            obtain ⟨vs, h5, h6⟩ := repLB_ok h4
            refine ⟨.ref a, rfl, fun α F => ?_⟩
            unfold Rep
            exact ⟨a, vs, rfl, .inr ⟨_, its, n, q, congrArg Value.type (of_decide_eq_true h1), rfl, rfl, of_decide_eq_true h3, h5⟩, h6 α F⟩
          | _ => cases h
        | some _ => cases dt <;> cases h
      | _ => cases od <;> cases dt <;> cases h
  | .dic _, u, h => by cases u <;> cases h
  | .ins _ _, u, h => by cases u <;> cases h
  | .cell _, u, h => by cases u <;> cases h
theorem repLB_ok {K : PySem.W.Frag} : ∀ {ds : List D} {us : List Value}, repLB K ds us = true → ∃ vs, Vals vs us ∧ ∀ α F, RepL K α F ds vs
  | [], [], _ => ⟨[], .nil, fun _ _ => RepL.nil⟩
  | [], _ :: _, h => by cases h
  | _ :: _, [], h => by cases h
  | d :: ds, u :: us, h => by
    obtain ⟨h1, h2⟩ := He.ba (show (repB K d u && repLB K ds us) = true from h)
    obtain ⟨v, r1, r2⟩ := repB_ok h1
    obtain ⟨vs, r3, r4⟩ := repLB_ok h2
    exact ⟨v :: vs, .cons r1 r3, fun α F => RepL.cons (r2 α F) (r4 α F)⟩
end

/-! ### what is looked at -/
def asI (g : Addr → Option Obj) : Nat → List Addr
  | 0 => [mainGlobals, cStatics]
  | n + 1 => He.growD g (asI g n)
/-- the function object at a -/
def fnA (K : PySem.W.Frag) (a : Addr) : He.FnW := match K.lookup a with
  | some ⟨_, _, .func fd, _⟩ => some (fd.name, fd.qualname, fd.params, fd.body, fd.scope, fd.globals, fd.closure, fd.builtins)
  | _ => none
def DefI.val (d : DefI) : He.FnW := some (d.loc.own, d.nm, d.args, .stmts d.body, d.scope, mainGlobals, [], builtinsNs)
def globB (K : PySem.W.Frag) (x : Str) : Bool := He.eqO (PySem.W.nsIn K mainGlobals x) (some (some (.ref (He.ga K x))))
def readB (K : PySem.W.Frag) (c : Str) : Bool := PySem.W.readsIn K (He.ga K c) (.type "type") && He.eqO (PySem.W.specialIn K (.ref (He.ga K c)) "__getattribute__") (some (some (.builtin "type.__getattribute__")))
def staB (K : PySem.W.Frag) (c m : Str) : Bool := globB K c && readB K c && (match PySem.W.findCls K (.ref (He.ga K c)) (.type "type") m with
    | some (.get (.builtin g) (.ref p) .none (.ref C)) => decide (g = "staticmethod.__get__") && decide (C = He.ga K c)
    | _ => false) && (match PySem.W.recIn K (staP K c m) "staticmethod" with
    | some (.ref _ :: _) => true
    | _ => false)
def clsB (K : PySem.W.Frag) (c : Str) : Bool := (He.Fa.cls c).ok K
def prpB (K : PySem.W.Frag) (c f : Str) : Bool := He.eqO (PySem.W.findIn K (.ref (He.ga K c)) f) (some (some (.ref (prpP K c f)))) && He.eqO (PySem.W.specialIn K (.ref (prpP K c f)) "__get__") (some (some (.builtin "property.__get__"))) &&
  decide (PySem.W.takesIn K (.ref (prpP K c f)) = some true) && (match PySem.W.recIn K (prpP K c f) "property" with
    | some (.ref _ :: _) => true
    | _ => false)
def conB (K : PySem.W.Frag) (c f : Str) (d : D) : Bool := !(PySem.W.copiedNames.contains f) && (match PySem.W.findIn K (.ref (He.ga K c)) f with
  | some (some u) => repB K d u && He.eqO (PySem.W.specialIn K u "__get__") (some none)
  | _ => false)
def attB (K : PySem.W.Frag) (q : (Str × Str) × AttK) : Bool := clsB K q.1.1 && (match q.2 with
  | .no => true
  | .fld => (He.Fa.noat q.1.1 q.1.2).ok K
  | .con d => conB K q.1.1 q.1.2 d
  | .prop => prpB K q.1.1 q.1.2)
def insB (K : PySem.W.Frag) (c : Str) : Bool := clsB K c && (He.eqO (PySem.W.findIn K (.ref (He.ga K c)) "__class__") (some (some (.builtin "object.__class__"))) && (He.eqO (PySem.W.specialIn K (.builtin "object.__class__") "__get__") (some (some (.builtin "getset_descriptor.__get__"))) &&
  (decide (PySem.W.takesIn K (.builtin "object.__class__") = some true) && decide (PySem.W.mroIn K (He.ga K c) (.type "object") = some true))))
def kIB (K : PySem.W.Frag) (q : (Str × Ty) × Bool) : Bool := decide (PySem.W.kitOne K (.ref (He.ga K q.1.1)) (.type q.1.2.nm) = some q.2) && insB K q.1.1
def kBB (K : PySem.W.Frag) (q : (String × Str) × Bool) : Bool := decide (PySem.W.kitOne K (.type q.1.1) (.ref (He.ga K q.1.2)) = some q.2)
def kOB (K : PySem.W.Frag) (q : (Str × Str) × Bool) : Bool := decide (PySem.W.kitOne K (.ref (He.ga K q.1.1)) (.ref (He.ga K q.1.2)) = some q.2) && insB K q.1.1
def makB (K : PySem.W.Frag) (c : Str) : Bool := globB K c && (He.Fa.mkr c).ok K
def Loc.okB (K : PySem.W.Frag) : Loc → Bool
  | .glo x => globB K x
  | .sta c m => staB K c m
  | .mth c m => clsB K c && (He.Fa.meth c m).ok K
  | .prp c f => prpB K c f
def defB (K : PySem.W.Frag) (d : DefI) : Bool := d.loc.okB K && PySem.W.keepIn K (.ref (d.loc.ad K)) && (match K.lookup (d.loc.ad K) with
  | some ⟨_, _, .func fd, _⟩ => PySem.W.codeIn K fd.code d.nm && (He.dflB K fd.defaults (d.fn.dfl.map vOf) && He.kwdB K fd.kwdefaults [])
  | _ => false)
def catB (K : PySem.W.Frag) (q : (Str × Str) × D) : Bool := globB K q.1.1 && readB K q.1.1 && (match PySem.W.findCls K (.ref (He.ga K q.1.1)) (.type "type") q.1.2 with
  | some (.val u) => repB K q.2 u
  | _ => false)
def gloB (K : PySem.W.Frag) (q : Str × D) : Bool := match PySem.W.nsIn K mainGlobals q.1 with
  | some (some u) => repB K q.2 u
  | _ => false
def freeB (K : PySem.W.Frag) (x : Str) : Bool := He.eqO (PySem.W.nsIn K mainGlobals x) (some none)
/-- an own exception's class: whose __init__ its own one calls -/
structure XInit where
  cls : Str
  base : Str
  args : Arguments
  body : List Stmt
  scope : Scope
  ps : List Str
  xi : XI
/-- its __init__, as a def -/
def XInit.di (x : XInit) : DefI where
  loc := .mth x.cls "__init__"
  args := x.args
  body := x.body
  scope := x.scope
  ps := x.ps
  N := x.ps
  fs := []
  fn := { slots := x.ps.length, params := x.ps.length, body := [] }
def XInit.chk (x : XInit) : Bool := x.di.scB && ckInit x.ps x.scope x.base x.xi x.body && decide (x.ps.length = x.xi.fs.length + 1)
def oexO (K : PySem.W.Frag) (C : Addr) : Bool := match K.lookup C with
  | some ⟨.type "type", _, .cls cd, sl⟩ => (match cd.mro, sl.toList with
    | .ref C' :: bm, [_, _, _, _, some (.builtin n), _] => C' == C && n == "ValueError.__new__" && !cd.hasDel && cd.hasDict && PySem.HandSPX.refsVE bm
    | _, _ => false)
  | _ => false
theorem oexO_ok {K : PySem.W.Frag} {C : Addr} (q : oexO K C = true) : ∃ nm q N bs bm sn sub ab col dd k0 k1 k2 k3 k5, K.lookup C = some (excClassObj nm q C N bs bm true sn sub ab col dd k0 k1 k2 k3 k5 "ValueError.__new__") ∧ PySem.HandSPX.refsVE bm = true := by
  unfold oexO at q
  split at q
  · rename_i dd cd sl ho
    split at q
    · rename_i C' bm k0 k1 k2 k3 n k5 hm hs
      simp only [Bool.and_eq_true, beq_iff_eq, Bool.not_eq_true'] at q
      obtain ⟨⟨⟨⟨rfl, rfl⟩, hdel⟩, hdct⟩, ht⟩ := q
      obtain ⟨nm, bs, mro, ns, qn, hd, sn, sub, ab, col, del⟩ := cd
      dsimp only at hm hdel hdct
      subst hm hdel hdct
      have hsl : sl = #[k0, k1, k2, k3, some (.builtin "ValueError.__new__"), k5] := by
        obtain ⟨l⟩ := sl
        simp only at hs
        rw [hs]
      subst hsl
      exact ⟨nm, qn, ns, bs, bm, sn, sub, ab, col, dd, k0, k1, k2, k3, k5, ho, ht⟩
    · cases q
  · cases q
def oexB (K : PySem.W.Frag) (c : Str) : Bool := oexO K (He.ga K c) && (He.eqO (PySem.W.findIn K (.ref (He.ga K c)) "__setattr__") (some (some (.builtin "object.__setattr__"))) && (decide (PySem.W.subIn K (.ref (He.ga K c)) (.type "BaseException") = some true) && (decide (PySem.W.typeIn K (.ref (He.ga K c)) = some (.type "type")) && PySem.W.keepIn K (.ref (He.ga K c)))))
theorem oexB_ok {K : PySem.W.Frag} {c : Str} (h : oexB K c = true) : OexC K (He.ga K c) := by
  obtain ⟨h1, h⟩ := He.ba h
  obtain ⟨h2, h⟩ := He.ba h
  obtain ⟨h3, h⟩ := He.ba h
  obtain ⟨h4, h5⟩ := He.ba h
  exact ⟨oexO_ok h1, He.eqO_ok h2, of_decide_eq_true h3, of_decide_eq_true h4, h5⟩
def xiB (K : PySem.W.Frag) (x : XInit) : Bool := globB K x.cls && (oexB K x.cls && (He.eqO (PySem.W.findIn K (.ref (He.ga K x.cls)) "__init__") (some (some (.ref (He.ma K (He.ga K x.cls) "__init__")))) && (decide (PySem.W.typeIn K (.ref (He.ma K (He.ga K x.cls) "__init__")) = some (.type "function")) &&
  (globB K x.base && (readB K x.base && ((match PySem.W.findCls K (.ref (He.ga K x.base)) (.type "type") "__init__" with
    | some (.val (.builtin s)) => s == "ValueError.__init__"
    | _ => false) && x.xi.fs.all fun f => He.eqO (PySem.W.findIn K (.ref (He.ga K x.cls)) f) (some none)))))))
/-- defaults, code of an exception's __init__ -/
def xdB (K : PySem.W.Frag) (d : DefI) : Bool := PySem.W.keepIn K (.ref (d.loc.ad K)) && (match K.lookup (d.loc.ad K) with
  | some ⟨_, _, .func fd, _⟩ => PySem.W.codeIn K fd.code d.nm && (He.dflB K fd.defaults (d.fn.dfl.map vOf) && He.kwdB K fd.kwdefaults [])
  | _ => false)
def clNB (K : PySem.W.Frag) (y : Str) : Bool := if y = ("ValueError" : Str) then freeB K y else globB K y
def kXB (K : PySem.W.Frag) (q : (Str × Str) × Bool) : Bool := decide (PySem.W.exmOne K (.ref (He.ga K q.1.1)) (clsV K q.1.2) = some q.2)
def excKB (K : PySem.W.Frag) (c : Str) : Bool := (PySem.W.clsIn K (He.ga K c)).isSome && (He.eqO (PySem.W.findIn K (.ref (He.ga K c)) "__getattribute__") (some (some (.builtin "BaseException.__getattribute__"))) && (He.eqO (PySem.W.findIn K (.ref (He.ga K c)) "__getattr__") (some none) &&
  (decide (PySem.W.subIn K (.ref (He.ga K c)) (.type "BaseException") = some true) && (He.eqO (PySem.W.findIn K (.ref (He.ga K c)) "__class__") (some (some (.builtin "object.__class__"))) && (He.eqO (PySem.W.specialIn K (.builtin "object.__class__") "__get__") (some (some (.builtin "getset_descriptor.__get__"))) &&
  (decide (PySem.W.takesIn K (.builtin "object.__class__") = some true) && decide (PySem.W.mroIn K (He.ga K c) (.type "object") = some true)))))))
theorem excKB_ok {K : PySem.W.Frag} {c : Str} (h : excKB K c = true) : ExcK K (He.ga K c) := by
  obtain ⟨h1, h⟩ := He.ba h
  obtain ⟨h2, h⟩ := He.ba h
  obtain ⟨h3, h⟩ := He.ba h
  obtain ⟨h4, h⟩ := He.ba h
  obtain ⟨h5, h⟩ := He.ba h
  obtain ⟨h6, h⟩ := He.ba h
  obtain ⟨h7, h8⟩ := He.ba h
  exact ⟨h1, He.eqO_ok h2, He.eqO_ok h3, of_decide_eq_true h4, He.eqO_ok h5, He.eqO_ok h6, of_decide_eq_true h7, of_decide_eq_true h8⟩
def kYB (K : PySem.W.Frag) (q : (Str × Str) × Bool) : Bool := clNB K q.1.2 && (decide (PySem.W.kitOne K (.ref (He.ga K q.1.1)) (clsV K q.1.2) = some q.2) && excKB K q.1.1)
def kEB (K : PySem.W.Frag) (c : Str) : Bool := He.eqO (PySem.W.findIn K (.ref (He.ga K c)) "__ne__") (some (some (.builtin "object.__ne__"))) && (decide (PySem.W.mroIn K (He.ga K c) (.type "object") = some true) &&
  (["NoneType", "bool", "int", "str", "list", "tuple", "dict"] : List String).all fun n => PySem.W.notFirst K (He.ga K c) (.type n))
theorem kEB_ok {K : PySem.W.Frag} {c : Str} (h : kEB K c = true) : EqC K (He.ga K c) := by
  obtain ⟨h1, h⟩ := He.ba h
  obtain ⟨h2, h3⟩ := He.ba h
  exact ⟨He.eqO_ok h1, of_decide_eq_true h2, fun n hn => List.all_eq_true.mp h3 n hn⟩
def xaB (K : PySem.W.Frag) (q : Str × Str) : Bool := L2.xfB K (He.ga K q.1) && He.eqO (PySem.W.findIn K (.ref (He.ga K q.1)) q.2) (some none)
/-- a row's table -/
structure Tb where
  tab : List DefI
  gl : List (Str × D)
  ct : List ((Str × Str) × D)
  at_ : List ((Str × Str) × AttK) := []
  mks : List Str := []
  kCs : List Str := []
  kIs : List ((Str × Ty) × Bool) := []
  kBs : List ((String × Str) × Bool) := []
  kOs : List ((Str × Str) × Bool) := []
  xs : List XInit := []
  kXs : List ((Str × Str) × Bool) := []
  kYs : List ((Str × Str) × Bool) := []
  xas : List (Str × Str) := []
  kNs : List Str := []
  kEs : List Str := []
def Tb.okX (t : Tb) (K : PySem.W.Frag) : Bool := t.xs.all (fun x => xiB K x && xdB K x.di) && t.kXs.all (kXB K) && t.kYs.all (kYB K) && t.xas.all (xaB K) && t.kNs.all (clNB K) && t.kEs.all (kEB K)
def Tb.okB (t : Tb) (K : PySem.W.Frag) : Bool := t.okX K && t.tab.all (defB K) && t.gl.all (gloB K) && t.ct.all (catB K) && bltNames.all (freeB K) && t.at_.all (attB K) && t.mks.all (makB K) && t.kCs.all (globB K) && t.kIs.all (kIB K) && t.kBs.all (kBB K) && t.kOs.all (kOB K)
abbrev AlI : Type := Bool × List He.FnW
def obsI (t : Tb) (K : PySem.W.Frag) : AlI := (t.okB K, (t.tab ++ t.xs.map XInit.di).map fun d => fnA K (d.loc.ad K))
def valI (t : Tb) : AlI := (true, (t.tab ++ t.xs.map XInit.di).map DefI.val)
def SaysI (t : Tb) (K : PySem.W.Frag) : Prop := obsI t K = valI t
def obsIG (n : Nat) (t : Tb) (g : Addr → Option Obj) : AlI := obsI t (He.frG g (asI g n))
def hookI (n : Nat) (t : Tb) : PySem.W.Hook where
  α := AlI
  obs := fun s => obsIG n t s.heap.get?
  val := fun _ => valI t
  says := fun _ h => ∃ K : PySem.W.Frag, K.In h ∧ SaysI t K
  of := fun _ _ e => ⟨_, He.frG_in, e⟩
  keeps := fun _ _ _ ⟨K, hK, c⟩ k => ⟨K, PySem.W.Frag.In.keeps hK k, c⟩
theorem obsIG_eq {n : Nat} {t : Tb} {g : Addr → Option Obj} {s : Shared} (h : ∀ a, g a = s.heap.get? a) : obsIG n t g = (hookI n t).obs s := by
  have e : g = s.heap.get? := funext h
  rw [e] <;> rfl
/-! ### .. and what it means -/
def Loc.isMth (q : Str × Str) : Loc → Bool
  | .mth c m => c == q.1 && m == q.2
  | _ => false
def Loc.isPrp (q : Str × Str) : Loc → Bool
  | .prp c m => c == q.1 && m == q.2
  | _ => false
def Tb.pgm (t : Tb) : Pgm where
  glob := fun x => t.gl.lookup x
  cat := fun c a => t.ct.lookup (c, a)
  fn := fun f => (t.tab.find? fun d => d.nm == f).map (·.fn)
  att := fun c f => (t.at_.lookup (c, f)).getD .no
  isM := fun c m => t.tab.any fun d => d.loc.isMth (c, m)
  isC := fun c => t.mks.contains c
  kC := fun c => t.kCs.contains c
  kI := fun c ty => t.kIs.lookup (c, ty)
  kB := fun n c => t.kBs.lookup (n, c)
  kO := fun a c => t.kOs.lookup (a, c)
  xc := fun c => (t.xs.find? fun x => x.cls == c).map (·.xi)
  kX := fun c y => t.kXs.lookup (c, y)
  kY := fun c y => t.kYs.lookup (c, y)
  xa := fun c f => t.xas.contains (c, f)
  kN := fun y => t.kNs.contains y
  kE := fun c => t.kEs.contains c
section
variable {t : Tb} {K : PySem.W.Frag} {h : Heap} {mg : Str → Option Value}
theorem SaysI.ok (c : SaysI t K) : t.okB K = true := congrArg (fun z : AlI => z.1) c
theorem mem_lookup {β : Type} {x : Str} {d : β} : ∀ {l : List (Str × β)}, l.lookup x = some d → (x, d) ∈ l
  | [], e => by cases e
  | (y, b) :: l, e => by
    rw [List.lookup_cons] at e
    cases q : x == y with
    | true =>
      rw [q] at e
      cases e
      rw [eq_of_beq q]
      exact List.mem_cons_self
    | false =>
      rw [q] at e
      exact List.mem_cons_of_mem _ (mem_lookup e)
theorem mem_lookupG {γ β : Type} [BEq γ] [LawfulBEq γ] {x : γ} {d : β} : ∀ {l : List (γ × β)}, l.lookup x = some d → (x, d) ∈ l
  | [], e => by cases e
  | (y, b) :: l, e => by
    rw [List.lookup_cons] at e
    cases q : x == y with
    | true =>
      rw [q] at e
      cases e
      rw [eq_of_beq q]
      exact List.mem_cons_self
    | false =>
      rw [q] at e
      exact List.mem_cons_of_mem _ (mem_lookupG e)
theorem mem_lookup2 {β : Type} {x : Str × Str} {d : β} : ∀ {l : List ((Str × Str) × β)}, l.lookup x = some d → (x, d) ∈ l
  | [], e => by cases e
  | (y, b) :: l, e => by
    rw [List.lookup_cons] at e
    cases q : x == y with
    | true =>
      rw [q] at e
      cases e
      rw [eq_of_beq q]
      exact List.mem_cons_self
    | false =>
      rw [q] at e
      exact List.mem_cons_of_mem _ (mem_lookup2 e)
theorem SaysI.parts (c : SaysI t K) : (∀ d ∈ t.tab, defB K d = true) ∧ (∀ q ∈ t.gl, gloB K q = true) ∧ (∀ q ∈ t.ct, catB K q = true) ∧ (∀ x ∈ bltNames, freeB K x = true) ∧ (∀ q ∈ t.at_, attB K q = true) ∧ (∀ c ∈ t.mks, makB K c = true) ∧ (∀ c ∈ t.kCs, globB K c = true) ∧ (∀ q ∈ t.kIs, kIB K q = true) ∧ (∀ q ∈ t.kBs, kBB K q = true) ∧ ∀ q ∈ t.kOs, kOB K q = true := by
  have := c.ok
  unfold Tb.okB at this
  simp only [Bool.and_eq_true, List.all_eq_true] at this
  obtain ⟨⟨⟨⟨⟨⟨⟨⟨⟨⟨_, a1⟩, a2⟩, a3⟩, a4⟩, a5⟩, a6⟩, a7⟩, a8⟩, a9⟩, a10⟩ := this
  exact ⟨a1, a2, a3, a4, a5, a6, a7, a8, a9, a10⟩
theorem SaysI.partX (c : SaysI t K) : (∀ x ∈ t.xs, xiB K x = true ∧ xdB K x.di = true) ∧ (∀ q ∈ t.kXs, kXB K q = true) ∧ (∀ q ∈ t.kYs, kYB K q = true) ∧ (∀ q ∈ t.xas, xaB K q = true) ∧ (∀ y ∈ t.kNs, clNB K y = true) ∧ ∀ c ∈ t.kEs, kEB K c = true := by
  have := c.ok
  unfold Tb.okB Tb.okX at this
  simp only [Bool.and_eq_true, List.all_eq_true] at this
  obtain ⟨⟨⟨⟨⟨⟨⟨⟨⟨⟨⟨⟨⟨⟨⟨b1, b2⟩, b3⟩, b4⟩, b5⟩, b6⟩, a1⟩, a2⟩, a3⟩, a4⟩, a5⟩, a6⟩, a7⟩, a8⟩, a9⟩, a10⟩ := this
  exact ⟨b1, b2, b3, b4, b5, b6⟩
theorem readB_ok {x : Str} (e : readB K x = true) : ClX.CRead K (He.ga K x) (.type "type") := by
  obtain ⟨h1, h2⟩ := He.ba e
  exact ⟨h1, He.eqO_ok h2⟩
theorem SaysI.xd (c : SaysI t K) {d : DefI} (hd : d ∈ t.tab ++ t.xs.map XInit.di) : xdB K d = true := by
  rcases List.mem_append.mp hd with hd | hd
  · have h1 := c.parts.1 d hd
    unfold defB at h1
    obtain ⟨h2, h3⟩ := He.ba h1
    unfold xdB
    rw [(He.ba h2).2, h3]
    rfl
  · obtain ⟨x, hx, rfl⟩ := List.mem_map.mp hd
    exact (c.partX.1 x hx).2
theorem SaysI.hF (c : SaysI t K) {d : DefI} (hd : d ∈ t.tab ++ t.xs.map XInit.di) : ∃ fd, FunD K d.loc.own d.nm d.args d.body d.scope (d.fn.dfl.map vOf) [] (d.loc.ad K) fd := by
  have h1 := c.xd hd
  unfold xdB at h1
  obtain ⟨kp, h3⟩ := He.ba h1
  obtain ⟨i, hi, ei⟩ := List.mem_iff_getElem.mp hd
  have e : (t.tab ++ t.xs.map XInit.di).map (fun d => fnA K (d.loc.ad K)) = (t.tab ++ t.xs.map XInit.di).map DefI.val := congrArg (fun z : AlI => z.2) c
  have e2 : ((t.tab ++ t.xs.map XInit.di).map fun d => fnA K (d.loc.ad K))[i]? = ((t.tab ++ t.xs.map XInit.di).map DefI.val)[i]? := by rw [e]
  rw [List.getElem?_map, List.getElem?_map, List.getElem?_eq_getElem hi, ei] at e2
  have e3 : fnA K (d.loc.ad K) = d.val := Option.some.inj e2
  unfold fnA at e3
  cases q : K.lookup (d.loc.ad K) with
  | none => rw [q] at h3; cases h3
  | some o =>
    obtain ⟨oc, od, dt, osl⟩ := o
    rw [q] at h3 e3
    cases dt with
    | func fd =>
      obtain ⟨n1, n2, n3, n4, n5, n6, n7, n8, n9, n10, n11, n12, n13, n14, n15⟩ := fd
      have e4 : (some (n1, n2, n3, n4, n5, n6, n7, n15) : He.FnW) = some (d.loc.own, d.nm, d.args, .stmts d.body, d.scope, mainGlobals, [], builtinsNs) := e3
      simp only [Option.some.injEq, Prod.mk.injEq] at e4
      obtain ⟨g1, g2, g3, g4, g5, g6, g7, g8⟩ := e4
      subst g1 g2 g3 g4 g5 g6 g7 g8
      obtain ⟨k1, k2⟩ := He.ba (show (PySem.W.codeIn K n13 d.nm && (He.dflB K n8 (d.fn.dfl.map vOf) && He.kwdB K n9 [])) = true from h3)
      obtain ⟨k3, k4⟩ := He.ba k2
      exact ⟨_, ⟨oc, od, n8, n9, n10, n11, n12, n13, n14, osl, rfl, q, k1, He.dflB_ok k3, He.kwdB_ok k4⟩, kp⟩
    | _ => cases h3
theorem globB_ok (X : K.In h) (G : h.Ns mainGlobals mg) {x : Str} (e : globB K x = true) : mg x = some (.ref (He.ga K x)) := PySem.W.mg_of X G (He.eqO_ok e)
theorem staB_ok (X : K.In h) (G : h.Ns mainGlobals mg) {x m : Str} (e : staB K x m = true) : mg x = some (.ref (He.ga K x)) ∧ ClX.CRead K (He.ga K x) (.type "type") ∧ CSta K (He.ga K x) m (staP K x m) (staG K x m) := by
  obtain ⟨e1, e2⟩ := He.ba e
  obtain ⟨e3, e4⟩ := He.ba e1
  obtain ⟨e5, e6⟩ := He.ba e3
  refine ⟨globB_ok X G e5, readB_ok e6, ?_, ?_⟩
  · clear e2
    unfold staP
    split at e4
    · rename_i g p C q
      obtain ⟨k1, k2⟩ := He.ba e4
      rw [q, of_decide_eq_true k1, of_decide_eq_true k2]
    · cases e4
  · unfold staG
    split at e2
    · rename_i g r q
      rw [q]
      exact ⟨r, rfl⟩
    · cases e2
theorem insB_ok {c : Str} (h : insB K c = true) : InsC K (He.ga K c) := by
  obtain ⟨h1, h2⟩ := He.ba h
  obtain ⟨h3, h4⟩ := He.ba h2
  obtain ⟨h5, h6⟩ := He.ba h4
  obtain ⟨h7, h8⟩ := He.ba h6
  exact ⟨He.cls_ok h1, He.eqO_ok h3, He.eqO_ok h5, of_decide_eq_true h7, of_decide_eq_true h8⟩
theorem prpB_ok {c f : Str} (h : prpB K c f = true) : PropOf K (He.ga K c) f (prpP K c f) (prpG K c f) := by
  obtain ⟨h1, h2⟩ := He.ba h
  obtain ⟨h3, h4⟩ := He.ba h1
  obtain ⟨h5, h6⟩ := He.ba h3
  refine ⟨He.eqO_ok h5, He.eqO_ok h6, of_decide_eq_true h4, ?_⟩
  unfold prpG
  split at h2
  · rename_i g r q
    rw [q]
    exact ⟨r, rfl⟩
  · cases h2
theorem mth_mem {c m : Str} (h : t.pgm.isM c m = true) : ∃ e ∈ t.tab, e.loc = .mth c m := by
  obtain ⟨e, he, z⟩ := List.any_eq_true.mp (show (t.tab.any fun d => d.loc.isMth (c, m)) = true from h)
  refine ⟨e, he, ?_⟩
  unfold Loc.isMth at z
  split at z
  · rename_i x y q
    rw [Bool.and_eq_true] at z
    rw [q, eq_of_beq z.1, eq_of_beq z.2]
  · cases z
theorem att_mem {c f : Str} {a : AttK} (h : t.pgm.att c f = a) (hn : a ≠ .no) : ((c, f), a) ∈ t.at_ := by
  have h' : (t.at_.lookup (c, f)).getD .no = a := h
  cases q : t.at_.lookup (c, f) with
  | none =>
    rw [q] at h'
    exact absurd h'.symm hn
  | some b =>
    rw [q] at h'
    obtain rfl : b = a := h'
    exact mem_lookup2 q
def DefI.boundA (d : DefI) : Prop := ∀ (kV doc pm : Value) (an : Option Addr) (cdv ct : Value) (us : List Value), us.length = d.ps.length → bindArgs (PySem.W.fnOf d.loc.own d.nm d.args d.body d.scope .none kV doc pm an cdv ct) ⟨us, []⟩ = pure (d.ps.zip us)
/-- so many are written, the defaults behind the first j fill up -/
def DefI.boundJ (d : DefI) (n m j : Nat) : Prop := ∀ (T : Addr) (kV doc pm : Value) (an : Option Addr) (cdv ct : Value) (us its : List Value), us.length = n → its.length = m →
  ∃ k, bindArgs (PySem.W.fnOf d.loc.own d.nm d.args d.body d.scope (.ref T) kV doc pm an cdv ct) ⟨us, []⟩ = seqItems? (.ref T) >>= k ∧ k (some its.toArray) = pure (d.ps.zip (us ++ its.drop j))
def DefI.bound (d : DefI) : Prop := (d.fn.dfl = [] ∧ d.boundA) ∨ (d.fn.dfl ≠ [] ∧ ∀ j ≤ d.fn.dfl.length, d.boundJ (d.ps.length - (d.fn.dfl.length - j)) d.fn.dfl.length j)
theorem binds_of {K : PySem.W.Frag} {d : DefI} {f : Addr} {fd : FuncData} (F : FunD K d.loc.own d.nm d.args d.body d.scope (d.fn.dfl.map vOf) [] f fd) (h : d.bound) (hle : d.fn.dfl.length ≤ d.ps.length) :
    ∀ j ≤ d.fn.dfl.length, ∃ us, Vals ((d.fn.dfl.map vOf).drop j) us ∧ Binds K fd d.ps us := by
  intro j hj
  rcases h with ⟨h1, h2⟩ | ⟨h1, h2⟩
  · rw [h1] at F ⊢
    exact ⟨[], by rw [List.map_nil, List.drop_nil]; exact .nil, F.bindsN h2⟩
  · refine F.binds1 (d.ps.length - (d.fn.dfl.length - j)) j (fun z => h1 (List.map_eq_nil_iff.mp z)) (by rw [flat_len]; omega) fun T kV doc pm an cdv ct us its e1 e2 => h2 j hj T kV doc pm an cdv ct us its e1 (by rw [e2, flat_len])
theorem says_defs {prog : Program} {w : World} {base : Heap} (X : K.In h) (G : h.Ns mainGlobals mg) (c : SaysI t K) (hchk : ∀ d ∈ t.tab, d.chk = true) (hnd : ∀ d ∈ t.tab, t.pgm.fn d.nm = some d.fn)
    (hcl : ∀ d ∈ t.tab, (∀ f ∈ d.fs, ∃ e ∈ t.tab, e.loc = .glo f) ∧ ∀ q ∈ d.ss, ∃ e ∈ t.tab, e.loc = .sta q.1 q.2)
    (hpc : ∀ c f, t.pgm.att c f = .prop → ∃ e ∈ t.tab, e.loc = .prp c f) (hmc : ∀ c ∈ t.mks, ∃ e ∈ t.tab, e.loc = .mth c "__init__")
    (hbd : ∀ d ∈ t.tab ++ t.xs.map XInit.di, d.bound) (hxk : ∀ x ∈ t.xs, x.chk = true) :
    ∀ (n : Nat), ∀ d ∈ t.tab, ∃ fd, FunD K d.loc.own d.nm d.args d.body d.scope (d.fn.dfl.map vOf) [] (d.loc.ad K) fd ∧ FnOk prog w K mg base (L2.CX prog w) n (d.loc.ad K) fd d.ps (spC K d.ps.length (I3.run0 t.pgm n d.nm)) := by
  intro n d hd
  obtain ⟨p1, p2, p3, p4, p5, p6, p7, p8, p9, p10⟩ := c.parts
  have hin : ∀ d ∈ t.tab, d ∈ t.tab ++ t.xs.map XInit.di := fun d h => List.mem_append.mpr (.inl h)
  obtain ⟨y1, y2, y3, y4, y5, y6⟩ := c.partX
  have nmV : ∀ y, clNB K y = true → (mg y = some (clsV K y) ∧ clsV K y = .ref (He.ga K y)) ∨ (mg y = none ∧ y = ("ValueError" : Str) ∧ clsV K y = .type "ValueError") := fun y h => by
    unfold clNB at h
    unfold clsV
    split at h
    · rename_i e
      rw [if_pos e]
      exact .inr ⟨PySem.W.mg_none_of X G (He.eqO_ok h), e, rfl⟩
    · rename_i e
      rw [if_neg e]
      exact .inl ⟨globB_ok X G h, rfl⟩
  obtain ⟨fd, F⟩ := c.hF (hin d hd)
  refine ⟨fd, F, defs_ok (P := t.pgm) t.tab hchk hnd hcl (fun d hd => ?_) (fun d hd x hx => ?_) (fun d hd x m hx => ?_) (fun x a dd hx => ?_) (fun cc f h => ?_) (fun cc f dd h => ?_) (fun cc f h => ?_) (fun cc m h => ?_) (fun cc h => ?_) (fun cc h => ?_) (fun cc ty b h => ?_) (fun nn cc b h => ?_) (fun aa cc b h => ?_) (fun cc xi h => ?_) (fun cc y b h => ?_) (fun y h => ?_) (fun cc y b h => ?_) (fun cc h => ?_) (fun cc f h => ?_) (fun x dd hx => ?_) (fun x hx => ?_) n n (Nat.le_refl n) d hd fd F⟩
  · obtain ⟨fd, F⟩ := c.hF (hin d hd)
    exact ⟨fd, F, binds_of F (hbd d (hin d hd)) (DefI.scope_ok (He.ba (hchk d hd)).1).2.2.2.2⟩
  · have h1 := p1 d hd
    unfold defB at h1
    have h2 := (He.ba (He.ba h1).1).1
    rw [hx] at h2
    exact globB_ok X G h2
  · have h1 := p1 d hd
    unfold defB at h1
    have h2 := (He.ba (He.ba h1).1).1
    rw [hx] at h2
    exact staB_ok X G h2
  · have h1 := p3 _ (mem_lookup2 hx)
    unfold catB at h1
    obtain ⟨h2, h3⟩ := He.ba h1
    obtain ⟨h4, h5⟩ := He.ba h2
    split at h3
    · rename_i u q
      obtain ⟨v, r1, r2⟩ := repB_ok h3
      exact ⟨_, u, v, globB_ok X G h4, readB_ok h5, ⟨q, r1⟩, r2⟩
    · cases h3
  · have h1 := p5 _ (att_mem h (fun z => by cases z))
    obtain ⟨h2, h3⟩ := He.ba h1
    exact ⟨He.cls_ok h2, He.noat_ok h3⟩
  · have h1 := p5 _ (att_mem h (fun z => by cases z))
    obtain ⟨h2, h3⟩ := He.ba h1
    obtain ⟨h4, h5⟩ := He.ba (show (!(PySem.W.copiedNames.contains f) && _) = true from h3)
    refine ⟨He.cls_ok h2, ?_⟩
    split at h5
    · rename_i u q
      obtain ⟨h6, h7⟩ := He.ba h5
      obtain ⟨v, r1, r2⟩ := repB_ok h6
      exact ⟨u, v, ⟨q, r1, He.eqO_ok h7, by simpa using h4⟩, r2⟩
    · cases h5
  · have h1 := p5 _ (att_mem h (fun z => by cases z))
    obtain ⟨h2, h3⟩ := He.ba h1
    obtain ⟨e, he, hl⟩ := hpc cc f h
    exact ⟨He.cls_ok h2, prpP K cc f, e, he, hl, by rw [hl]; exact prpB_ok h3⟩
  · obtain ⟨e, he, hl⟩ := mth_mem h
    have h1 := p1 e he
    unfold defB at h1
    have h2 := (He.ba (He.ba h1).1).1
    rw [hl] at h2
    obtain ⟨h3, h4⟩ := He.ba h2
    exact ⟨He.cls_ok h3, e, he, hl, by rw [hl]; exact He.meth_ok h4⟩
  · have hm : cc ∈ t.mks := List.contains_iff_mem.mp h
    obtain ⟨h1, h2⟩ := He.ba (p6 cc hm)
    obtain ⟨e, he, hl⟩ := hmc cc hm
    exact ⟨globB_ok X G h1, e, he, hl, by rw [hl]; exact He.mkr_ok h2⟩
  · exact globB_ok X G (p7 cc (List.contains_iff_mem.mp h))
  · obtain ⟨h1, h2⟩ := He.ba (p8 _ (mem_lookupG h))
    exact ⟨of_decide_eq_true h1, insB_ok h2⟩
  · exact of_decide_eq_true (p9 _ (mem_lookupG h))
  · obtain ⟨h1, h2⟩ := He.ba (p10 _ (mem_lookup2 h))
    exact ⟨of_decide_eq_true h1, insB_ok h2⟩
  · have h' : (t.xs.find? fun x => x.cls == cc).map (·.xi) = some xi := h
    cases e : t.xs.find? fun x => x.cls == cc with
    | none => rw [e] at h'; cases h'
    | some x =>
      rw [e] at h'
      cases h'
      have hx := List.mem_of_find?_eq_some e
      have ec : x.cls = cc := eq_of_beq (by simpa using List.find?_some e)
      obtain ⟨k1, k2⟩ := y1 x hx
      subst ec
      obtain ⟨g1, k⟩ := He.ba k1
      obtain ⟨g2, k⟩ := He.ba k
      obtain ⟨g3, k⟩ := He.ba k
      obtain ⟨g4, k⟩ := He.ba k
      obtain ⟨g5, k⟩ := He.ba k
      obtain ⟨g6, k⟩ := He.ba k
      obtain ⟨g7, g8⟩ := He.ba k
      have hd2 : x.di ∈ t.tab ++ t.xs.map XInit.di := List.mem_append.mpr (.inr (List.mem_map_of_mem hx))
      obtain ⟨fd2, F2⟩ := c.hF hd2
      have hck := hxk x hx
      unfold XInit.chk at hck
      simp only [Bool.and_eq_true, decide_eq_true_eq] at hck
      obtain ⟨⟨c1, c2⟩, c3⟩ := hck
      obtain ⟨sc, _, _, _, _⟩ := DefI.scope_ok c1
      have hbn := binds_of F2 (hbd _ hd2) (Nat.zero_le _) 0 (Nat.zero_le _)
      obtain ⟨us, hv, hb⟩ := hbn
      have hb' : Binds K fd2 x.ps [] := by
        cases hv
        exact hb
      have vV : PySem.W.findCls K (.ref (He.ga K x.base)) (.type "type") "__init__" = some (.val (.builtin "ValueError.__init__")) := by
        split at g7
        · rename_i s q
          rw [q, eq_of_beq g7]
        · cases g7
      exact ⟨globB_ok X G g1, oexB_ok g2, _, fd2, x.ps, He.eqO_ok g3, of_decide_eq_true g4, hb', init_ok F2 sc c3 c2 (oexB_ok g2) (fun f hf => He.eqO_ok (List.all_eq_true.mp g8 f hf)) (globB_ok X G g5) (readB_ok g6) vV⟩
  · exact of_decide_eq_true (y2 _ (mem_lookup2 h))
  · exact nmV y (y5 y (List.contains_iff_mem.mp h))
  · obtain ⟨h1, h2⟩ := He.ba (y3 _ (mem_lookup2 h))
    obtain ⟨h3, h4⟩ := He.ba h2
    exact ⟨nmV y h1, of_decide_eq_true h3, excKB_ok h4⟩
  · exact kEB_ok (y6 _ (List.contains_iff_mem.mp h))
  · obtain ⟨h1, h2⟩ := He.ba (y4 _ (List.contains_iff_mem.mp h))
    exact ⟨xfB_ok h1, He.eqO_ok h2⟩
  · have h1 := p2 _ (mem_lookup hx)
    unfold gloB at h1
    split at h1
    · rename_i u q
      obtain ⟨v, r1, r2⟩ := repB_ok h1
      exact ⟨u, v, PySem.W.mg_of X G q, r1, r2⟩
    · cases h1
  · exact PySem.W.mg_none_of X G (He.eqO_ok (p4 x hx))
theorem St.first {K : PySem.W.Frag} {H : Hp} : I3.St K (fun _ => none) [] H [] H where
  prv := fun a o e => by cases e
  dis := fun a o e => by cases e
  sub := fun a o e => e
  len := rfl
  cel := fun i a d e1 e2 => by simp at e1
  out := fun i a d e1 e2 => by simp at e1
  inj := fun i j a d e e1 => by simp at e1
theorem rep_ints {K : PySem.W.Frag} {α : List Addr} {F : Hp} : ∀ {ns : List Int}, RepL K α F (ns.map D.int) (ns.map V.int)
  | [] => RepL.nil
  | _ :: _ => RepL.cons rfl rep_ints
/-- a law's promise -/
theorem law_sp {ns : List Int} {a : Addr} {H : Hp} {n : Nat} (hS : SqL K H a (ns.map V.int)) (hr : ∃ κ, I3.run0 t.pgm n "law" [.lst (ns.map D.int)] [] = .ok (.bl true) κ) :
    spC K 1 (I3.run0 t.pgm n "law") [.ref a] H (fun v _ => v = .bl true) fun _ _ _ => False := by
  obtain ⟨κ, e⟩ := hr
  refine ⟨rfl, fun _ => none, [], H, [], [.lst (ns.map D.int)], ?_, RepL.cons ?_ RepL.nil, ?_⟩
  · exact St.first
  · unfold Rep
    exact ⟨a, ns.map V.int, rfl, hS, rep_ints⟩
  · rw [e]
    exact fun v H' α' F' _ _ _ r => r
end
end I3

set_option Elab.async false
set_option linter.all false
set_option autoImplicit false
set_option maxRecDepth 100000
set_option maxHeartbeats 4000000
/-! I3q: a law's facts in one. -/
namespace I3
open PySem PySem.Spec PyProof.Rows L2

def clsBody : Stmt → List Stmt
  | .ClassDef _ _ _ b _ _ _ _ _ _ _ => b
  | _ => []
theorem bound_j {d : DefI} {n m j : Nat} (h1 : d.ps.length - (d.fn.dfl.length - j) = n) (h2 : d.fn.dfl.length = m) (h : d.boundJ n m j) : d.boundJ (d.ps.length - (d.fn.dfl.length - j)) d.fn.dfl.length j := by
  rw [h1, h2]
  exact h
theorem le_cases {p : Nat → Prop} {m : Nat} {l : List Nat} (e : List.range (m + 1) = l) (h : ∀ j ∈ l, p j) : ∀ j ≤ m, p j := fun j hj => h j (e ▸ List.mem_range.mpr (Nat.lt_succ_of_le hj))
theorem all_nil {β : Type} {p : β → Prop} : ∀ d ∈ ([] : List β), p d := fun _ h => by cases h
theorem all_cons {β : Type} {p : β → Prop} {x : β} {l : List β} (h : p x) (t : ∀ d ∈ l, p d) : ∀ d ∈ x :: l, p d := fun d hd => by
  rcases List.mem_cons.mp hd with e | e
  · rw [e]; exact h
  · exact t d e
def Loc.isGlo (f : Str) : Loc → Bool
  | .glo x => x == f
  | _ => false
def Loc.isSta (q : Str × Str) : Loc → Bool
  | .sta c m => c == q.1 && m == q.2
  | _ => false
def Tb.wf (t : Tb) : Bool := decide (t.tab.map DefI.nm).Nodup && t.tab.all DefI.chk && t.tab.all fun d => d.fs.all (fun f => t.tab.any fun e => e.loc.isGlo f) && d.ss.all (fun q => t.tab.any fun e => e.loc.isSta q)
def AttK.isP : AttK → Bool
  | .prop => true
  | _ => false
def Tb.wf2 (t : Tb) : Bool := t.at_.all (fun q => !q.2.isP || t.tab.any fun e => e.loc.isPrp q.1) && t.mks.all fun c => t.tab.any fun e => e.loc.isMth (c, "__init__")
theorem Tb.wf2_ok {t : Tb} (h : t.wf2 = true) : (∀ c f, t.pgm.att c f = .prop → ∃ e ∈ t.tab, e.loc = .prp c f) ∧ ∀ c ∈ t.mks, ∃ e ∈ t.tab, e.loc = .mth c "__init__" := by
  unfold Tb.wf2 at h
  simp only [Bool.and_eq_true, List.all_eq_true, Bool.or_eq_true, Bool.not_eq_true'] at h
  refine ⟨fun c f ha => ?_, fun c hc => ?_⟩
  · rcases h.1 _ (att_mem ha (fun z => by cases z)) with z | z
    · cases z
    · obtain ⟨e, he, y⟩ := List.any_eq_true.mp z
      refine ⟨e, he, ?_⟩
      unfold Loc.isPrp at y
      split at y
      · rename_i x m q
        rw [Bool.and_eq_true] at y
        rw [q, eq_of_beq y.1, eq_of_beq y.2]
      · cases y
  · exact mth_mem (h.2 c hc)
theorem find_nm : ∀ {l : List DefI} {d : DefI}, (l.map DefI.nm).Nodup → d ∈ l → l.find? (fun e => e.nm == d.nm) = some d
  | [], _, _, h => by cases h
  | x :: l, d, hn, h => by
    rw [List.map_cons, List.nodup_cons] at hn
    rcases List.mem_cons.mp h with e | e
    · subst e
      rw [List.find?_cons, show (d.nm == d.nm) = true from beq_self_eq_true _]
    · have ne : (x.nm == d.nm) = false := by
        cases q : x.nm == d.nm with
        | false => rfl
        | true =>
          exfalso
          exact hn.1 (by rw [eq_of_beq q]; exact List.mem_map_of_mem e)
      rw [List.find?_cons, ne]
      exact find_nm hn.2 e
theorem Tb.wf_ok {t : Tb} (h : t.wf = true) : (∀ d ∈ t.tab, d.chk = true) ∧ (∀ d ∈ t.tab, t.pgm.fn d.nm = some d.fn) ∧ ∀ d ∈ t.tab, (∀ f ∈ d.fs, ∃ e ∈ t.tab, e.loc = .glo f) ∧ ∀ q ∈ d.ss, ∃ e ∈ t.tab, e.loc = .sta q.1 q.2 := by
  unfold Tb.wf at h
  simp only [Bool.and_eq_true, decide_eq_true_eq, List.all_eq_true, List.any_eq_true] at h
  obtain ⟨⟨h1, h2⟩, h3⟩ := h
  refine ⟨h2, fun d hd => ?_, fun d hd => ⟨fun f hf => ?_, fun q hq => ?_⟩⟩
  · show (t.tab.find? fun e => e.nm == d.nm).map (·.fn) = some d.fn
    rw [find_nm h1 hd]
    rfl
  · obtain ⟨e, he, z⟩ := (h3 d hd).1 f hf
    refine ⟨e, he, ?_⟩
    unfold Loc.isGlo at z
    split at z
    · rename_i x q
      rw [q, eq_of_beq z]
    · cases z
  · obtain ⟨e, he, z⟩ := (h3 d hd).2 q hq
    refine ⟨e, he, ?_⟩
    unfold Loc.isSta at z
    split at z
    · rename_i x m y
      rw [Bool.and_eq_true] at z
      rw [y, eq_of_beq z.1, eq_of_beq z.2]
    · cases z
/-- exceptions, of no world -/
def CXI : CXT := fun outer H s E e s' => ∃ P w, L2.CX P w outer H s E e s'
theorem cx_none {H : Hp} {s : Shared} {e : Value} {s' : Shared} (z : CXI [] H s (fun _ _ _ => False) e s') : False := by
  obtain ⟨P, w, a, B, H', cls, d, _, _, _, _, _, _, _, f⟩ := z
  exact f
theorem fnOk_cxi {P : Program} {w : World} {K : PySem.W.Frag} {mg : Str → Option Value} {base : Heap} {k : Nat} {f : Addr} {fd : FuncData} {ps : List Str} {sp : Sp} (F : FnOk P w K mg base (L2.CX P w) k f fd ps sp) : FnOk P w K mg base CXI k f fd ps sp :=
  ⟨F.len, fun A outer s H args us vs Q E hr e0 hb hv hs => codeAny_mono (F.run A outer s H args us vs Q E hr e0 hb hv hs) fun r s' q => by
    cases r with
    | ok fl => cases fl <;> exact q
    | error e => exact ⟨P, w, q⟩⟩
theorem law_facts {t : Tb} {d : DefI} {x : Str} {n : Nat} {P : Program} {w : World} {K : PySem.W.Frag} {h : Heap} {mg : Str → Option Value} {f : Addr} (X : K.In h) (G : h.Ns mainGlobals mg) (hfa : mg ("law" : Str) = some (.ref f)) (c : SaysI t K)
    (wf : t.wf = true) (wf2 : t.wf2 = true) (wf3 : t.xs.all XInit.chk = true) (bd : ∀ d ∈ t.tab ++ t.xs.map XInit.di, d.bound) (hd : d ∈ t.tab) (hl : d.loc = .glo "law") (hp : d.ps = [x]) (hd0 : d.fn.dfl = []) :
    ∃ fd : FuncData, (∀ (s : Shared) (v : Value), BindsTo s fd ⟨[v], []⟩ [(x, v)]) ∧ ∀ base : Heap, K.In base → base.Ns mainGlobals mg → FnOk P w K mg base CXI n f fd [x] (spC K 1 (I3.run0 t.pgm n "law")) := by
  have hin : d ∈ t.tab ++ t.xs.map XInit.di := List.mem_append.mpr (.inl hd)
  obtain ⟨fd, F⟩ := c.hF hin
  obtain ⟨w1, w2, w3⟩ := Tb.wf_ok wf
  have hnm : d.nm = "law" := by unfold DefI.nm; rw [hl]; rfl
  have had : d.loc.ad K = f := by
    have h1 := c.parts.1 d hd
    unfold defB at h1
    have h2 := (He.ba (He.ba h1).1).1
    rw [hl] at h2
    have h3 := globB_ok X G h2
    rw [hfa] at h3
    rw [hl]
    exact (Value.ref.inj (Option.some.inj h3)).symm
  refine ⟨fd, fun s v => ?_, fun base _ _ => ?_⟩
  · have hA : d.boundA := (bd d hin).elim (fun h => h.2) fun h => absurd hd0 h.1
    rw [hd0] at F
    have z := FunD.bindsA (ps := d.ps) F hA s [v] (by rw [hp]; rfl)
    rw [hp] at z
    exact z
  · obtain ⟨fd', F', ok⟩ := says_defs (prog := P) (w := w) (base := base) X G c w1 w2 w3 (Tb.wf2_ok wf2).1 (Tb.wf2_ok wf2).2 bd (fun x hx => List.all_eq_true.mp wf3 x hx) n d hd
    have e : fd' = fd := by
      obtain ⟨_, _, _, _, _, _, _, _, _, _, e1, l1, _⟩ := F.ex
      obtain ⟨_, _, _, _, _, _, _, _, _, _, e2, l2, _⟩ := F'.ex
      rw [l1] at l2
      have := Option.some.inj l2
      injection this with _ _ h3 _
      injection h3 with h4
      exact h4.symm
    rw [e, had, hp, hnm] at ok
    exact fnOk_cxi ok
end I3

set_option Elab.async false
set_option linter.all false
set_option autoImplicit false
set_option maxRecDepth 100000
set_option maxHeartbeats 4000000
/-! I3r: what a run computes: rules. -/
namespace I3
open PySem

/-- the run ends, and so -/
@[irreducible] def wp {β : Type} (r : Res β) (Q : β → Store → Prop) : Prop := match r with
  | .ok a κ => Q a κ
  | _ => False
section
variable {β δ : Type}
@[simp] theorem wp_ok {a : β} {κ : Store} {Q : β → Store → Prop} : wp (.ok a κ) Q = Q a κ := by unfold wp; rfl
@[simp] theorem wp_exc {c : Str} {fs : List (Str × D)} {κ : Store} {Q : β → Store → Prop} : wp (.exc c fs κ) Q = False := by unfold wp; rfl
@[simp] theorem wp_bad {Q : β → Store → Prop} : wp (.bad : Res β) Q = False := by unfold wp; rfl
theorem wp_rfl {r : Res β} {a : β} {κ : Store} {Q : β → Store → Prop} (h : r = .ok a κ) : wp r Q = Q a κ := by rw [h, wp_ok]
theorem wp_pure {r : Res β} {a : β} {κ : Store} {Q : β → Store → Prop} (h : r = .ok a κ) (q : Q a κ) : wp r Q := by rw [h, wp_ok]; exact q
theorem wp_as {r r' : Res β} {Q : β → Store → Prop} (h : r = r') : wp r Q = wp r' Q := by rw [h]
@[simp] theorem wp_bind {r : Res β} {f : β → Store → Res δ} {Q : δ → Store → Prop} : wp (r.bind f) Q = wp r fun a κ => wp (f a κ) Q := by cases r <;> simp only [Res.bind_ok, Res.bind_exc, Res.bind_bad, wp_ok, wp_exc, wp_bad]
@[simp] theorem wp_nox {r : Res β} {Q : β → Store → Prop} : wp r.nox Q = wp r Q := by cases r <;> simp only [Res.nox_ok, Res.nox_exc, Res.nox_bad, wp_ok, wp_exc, wp_bad]
theorem wp_mono {r : Res β} {Q Q' : β → Store → Prop} (h : wp r Q) (i : ∀ a κ, Q a κ → Q' a κ) : wp r Q' := by
  cases r with
  | ok a κ => rw [wp_ok] at h ⊢; exact i a κ h
  | exc c fs κ => rw [wp_exc] at h; exact h.elim
  | bad => rw [wp_bad] at h; exact h.elim
theorem wp_bindS {r : Res β} {ρ : Env'} {f : β → Store → Res Flow} {Q : Flow → Store → Prop} (h : wp r fun a κ => wp (f a κ) Q) : wp (r.bindS ρ f) Q := by
  cases r with
  | ok a κ => rw [wp_ok] at h; exact h
  | exc c fs κ => rw [wp_exc] at h; exact h.elim
  | bad => rw [wp_bad] at h; exact h.elim
theorem wp_get {r : Res β} {Q : β → Store → Prop} (h : wp r Q) : ∃ a κ, r = .ok a κ ∧ Q a κ := by
  cases r with
  | ok a κ => rw [wp_ok] at h; exact ⟨a, κ, rfl, h⟩
  | exc c fs κ => rw [wp_exc] at h; exact h.elim
  | bad => rw [wp_bad] at h; exact h.elim
theorem wp_ite {c : Prop} [Decidable c] {a b : Res β} {Q : β → Store → Prop} (h1 : c → wp a Q) (h2 : ¬ c → wp b Q) : wp (if c then a else b) Q := by
  by_cases h : c
  · rw [if_pos h]; exact h1 h
  · rw [if_neg h]; exact h2 h
theorem wp_if {c : Prop} [Decidable c] {a b : Res β} {Q : β → Store → Prop} (h : c) (h1 : wp a Q) : wp (if c then a else b) Q := by rw [if_pos h]; exact h1
end
/-- a run, sealed -/
@[irreducible] noncomputable def run (P : Pgm) (n : Nat) : CallF := run0 P n
theorem run_eq {P : Pgm} {n : Nat} : run P n = run0 P n := by
  unfold run
  rfl
/-- a call -/
theorem wp_run {P : Pgm} {n : Nat} {f : Str} {d : Fn} {ds : List D} {κ : Store} {Q : D → Store → Prop} (h : P.fn f = some d) (hl : (d.fill ds).length = d.params)
    (hb : wp (evSs (P.gam n) d.body ((d.fill ds).map some ++ List.replicate (d.slots - d.params) none) κ) fun fl κ' => wp (endD κ.length d.mode fl κ') Q) : wp (run P (n + 1) f ds κ) Q := by
  rw [run_eq, run_succ h, if_pos hl, wp_bind, wp_nox]
  exact hb
/-- for, over what stays -/
theorem wp_for {xs : List D} {step : D → Env' → Store → Res Flow} {Q : Flow → Store → Prop} (I : Nat → Env' → Store → Prop) {ρ : Env'} {κ : Store} (h0 : I 0 ρ κ)
    (hs : ∀ i d ρ κ, xs[i]? = some d → I i ρ κ → wp (step d ρ κ) fun f κ1 => (match f with
      | .next ρ' => I (i + 1) ρ' κ1
      | .cont ρ' => I (i + 1) ρ' κ1
      | .brk ρ' => Q (.next ρ') κ1
      | f => Q f κ1)) (he : ∀ ρ κ, I xs.length ρ κ → Q (.next ρ) κ) : wp (forL (.fix xs) step xs.length ρ κ) Q := by
  have key : ∀ (k : Nat) (ρ : Env') (κ : Store), k ≤ xs.length → I (xs.length - k) ρ κ → wp (forL (.fix xs) step k ρ κ) Q := by
    intro k
    induction k with
    | zero => intro ρ κ _ h; exact wp_pure rfl (he ρ κ (by simpa using h))
    | succ k ih =>
      intro ρ κ hk h
      have hl : xs.length - (k + 1) < xs.length := by omega
      unfold forL
      have e : Itm.get (.fix xs) ((Itm.fix xs).len - (k + 1)) κ = some xs[xs.length - (k + 1)] := by
        show xs[xs.length - (k + 1)]? = _
        rw [List.getElem?_eq_getElem hl]
      rw [e]
      dsimp only
      rw [wp_bind]
      refine wp_mono (hs _ _ ρ κ (List.getElem?_eq_getElem hl) h) fun f κ1 q => ?_
      have e2 : xs.length - (k + 1) + 1 = xs.length - k := by omega
      cases f with
      | next ρ' => exact ih ρ' κ1 (by omega) (e2 ▸ q)
      | cont ρ' => exact ih ρ' κ1 (by omega) (e2 ▸ q)
      | brk ρ' => exact wp_pure rfl q
      | ret d => exact wp_pure rfl q
      | exc c fs ρ' => exact wp_pure rfl q
  exact key xs.length ρ κ (Nat.le_refl _) (by simpa using h0)
/-- a comprehension, over what stays -/
theorem wp_comp {xs : List D} {step : D → Store → Res (Option D)} {Q : List D → Store → Prop} (I : Nat → List D → Store → Prop) {κ : Store} (h0 : I 0 [] κ)
    (hs : ∀ i d acc κ, xs[i]? = some d → I i acc κ → wp (step d κ) fun r κ1 => (match r with
      | some x => I (i + 1) (acc ++ [x]) κ1
      | none => I (i + 1) acc κ1)) (he : ∀ acc κ, I xs.length acc κ → Q acc κ) : wp (compL (.fix xs) step xs.length [] κ) Q := by
  have key : ∀ (k : Nat) (acc : List D) (κ : Store), k ≤ xs.length → I (xs.length - k) acc κ → wp (compL (.fix xs) step k acc κ) Q := by
    intro k
    induction k with
    | zero => intro acc κ _ h; exact wp_pure rfl (he acc κ (by simpa using h))
    | succ k ih =>
      intro acc κ hk h
      have hl : xs.length - (k + 1) < xs.length := by omega
      unfold compL
      have e : Itm.get (.fix xs) ((Itm.fix xs).len - (k + 1)) κ = some xs[xs.length - (k + 1)] := by
        show xs[xs.length - (k + 1)]? = _
        rw [List.getElem?_eq_getElem hl]
      rw [e]
      dsimp only
      rw [wp_bind]
      refine wp_mono (hs _ _ acc κ (List.getElem?_eq_getElem hl) h) fun r κ1 q => ?_
      have e2 : xs.length - (k + 1) + 1 = xs.length - k := by omega
      cases r with
      | some x => exact ih _ κ1 (by omega) (e2 ▸ q)
      | none => exact ih _ κ1 (by omega) (e2 ▸ q)
  exact key xs.length [] κ (Nat.le_refl _) (by simpa using h0)
theorem rangeD_len {lo : Int} {n : Nat} : (rangeD lo n).length = n := by unfold rangeD; rw [List.length_map, List.length_range]
theorem rangeD_get {lo : Int} {n i : Nat} {d : D} (h : (rangeD lo n)[i]? = some d) : i < n ∧ d = .int (lo + i) := by
  have hi : i < n := by
    have := (List.getElem?_eq_some_iff.mp h).1
    rw [rangeD_len] at this
    exact this
  unfold rangeD at h
  rw [List.getElem?_map, List.getElem?_range hi] at h
  exact ⟨hi, (Option.some.inj h).symm⟩
/-- the deck of draws -/
def deckD (a b i k : Int) : D := .lst [.int a, .int b, .int i, .int k]
/-- at j stands a deck that has been drawn from at most m times -/
def DeckAt (κ : Store) (j m : Nat) : Prop := ∃ a b i k : Int, κ[j]? = some (deckD a b i k) ∧ 0 ≤ a ∧ (0 ≤ b ∧ b < 2305843009213693951) ∧ (0 ≤ i ∧ i ≤ 1000) ∧ 0 ≤ k ∧ k ≤ m
end I3

set_option Elab.async false
set_option linter.all false
set_option autoImplicit false
set_option maxRecDepth 100000
set_option maxHeartbeats 4000000
/-! I3s: what a run computes: step by step. -/
namespace I3
open PySem PyProof.Rows
@[simp] theorem gam_call {P : Pgm} {n : Nat} : (P.gam n).call = run P n := by rw [run_eq]; rfl
@[simp] theorem gam_low0 {P : Pgm} {n : Nat} : (P.gam (n + 1)).low = run P n := by rw [run_eq]; rfl
@[simp] theorem gam_glob {P : Pgm} {n : Nat} : (P.gam n).glob = P.glob := rfl
@[simp] theorem gam_cat {P : Pgm} {n : Nat} : (P.gam n).cat = P.cat := rfl
@[simp] theorem gam_att {P : Pgm} {n : Nat} : (P.gam n).att = P.att := rfl
@[simp] theorem gam_isM {P : Pgm} {n : Nat} : (P.gam n).isM = P.isM := rfl
@[simp] theorem gam_isC {P : Pgm} {n : Nat} : (P.gam n).isC = P.isC := rfl
section
variable {G : Gam} {ρ : Env'} {κ : Store} {Q : D → Store → Prop} {QT : Bool → Store → Prop} {QL : List D → Store → Prop} {QF : Flow → Store → Prop} {QI : Itm → Store → Prop}
@[simp] theorem w_var {i : Nat} : wp (ev G (.var i) ρ κ) Q = wp (match ρ[i]? with | some (some d) => .ok d κ | _ => .bad) Q := wp_as rfl
@[simp] theorem w_non : wp (ev G .non ρ κ) Q = Q .non κ := wp_rfl rfl
@[simp] theorem w_bl {b : Bool} : wp (ev G (.bl b) ρ κ) Q = Q (.bl b) κ := wp_rfl rfl
@[simp] theorem w_int {i : Int} : wp (ev G (.int i) ρ κ) Q = Q (.int i) κ := wp_rfl rfl
@[simp] theorem w_str {x : Str} : wp (ev G (.str x) ρ κ) Q = Q (.str x) κ := wp_rfl rfl
@[simp] theorem w_glob {x : Str} : wp (ev G (.glob x) ρ κ) Q = wp (match G.glob x with | some d => .ok d κ | none => .bad) Q := wp_as rfl
@[simp] theorem w_cat {c a : Str} : wp (ev G (.cat c a) ρ κ) Q = wp (match G.cat c a with | some d => .ok d κ | none => .bad) Q := wp_as rfl
@[simp] theorem w_bin {o : Bop} {a b : E} : wp (ev G (.bin o a b) ρ κ) Q = wp (ev G a ρ κ) fun x κ => wp (ev G b ρ κ) fun y κ => wp (opBin o x y κ) Q := by
  simp only [ev, wp_bind] <;> first | rfl | exact wp_rfl rfl | exact wp_as rfl | (simp only [wp_ok, wp_exc, wp_bad, Res.bindS_ok, Res.bindS_exc, Res.bindS_bad]; done) | (simp only [wp_ok, wp_exc, wp_bad, Res.bindS_ok, Res.bindS_exc, Res.bindS_bad]; first | rfl | exact wp_rfl rfl | exact wp_as rfl)
@[simp] theorem w_neg {a : E} : wp (ev G (.neg a) ρ κ) Q = wp (ev G a ρ κ) fun x κ => wp (match x with | .int i => .ok (.int (-i)) κ | _ => .bad) Q := by
  simp only [ev, wp_bind] <;> first | rfl | exact wp_rfl rfl | exact wp_as rfl | (simp only [wp_ok, wp_exc, wp_bad, Res.bindS_ok, Res.bindS_exc, Res.bindS_bad]; done) | (simp only [wp_ok, wp_exc, wp_bad, Res.bindS_ok, Res.bindS_exc, Res.bindS_bad]; first | rfl | exact wp_rfl rfl | exact wp_as rfl)
@[simp] theorem w_not {a : E} : wp (ev G (.not a) ρ κ) Q = wp (ev G a ρ κ) fun x κ => wp (match x with | .bl b => .ok (.bl (!b)) κ | _ => .bad) Q := by
  simp only [ev, wp_bind] <;> first | rfl | exact wp_rfl rfl | exact wp_as rfl | (simp only [wp_ok, wp_exc, wp_bad, Res.bindS_ok, Res.bindS_exc, Res.bindS_bad]; done) | (simp only [wp_ok, wp_exc, wp_bad, Res.bindS_ok, Res.bindS_exc, Res.bindS_bad]; first | rfl | exact wp_rfl rfl | exact wp_as rfl)
@[simp] theorem w_cmp {o : Cop} {a b : E} : wp (ev G (.cmp o a b) ρ κ) Q = wp (ev G a ρ κ) fun x κ => wp (ev G b ρ κ) fun y κ => wp (opCmp o x y κ) Q := by
  simp only [ev, wp_bind] <;> first | rfl | exact wp_rfl rfl | exact wp_as rfl | (simp only [wp_ok, wp_exc, wp_bad, Res.bindS_ok, Res.bindS_exc, Res.bindS_bad]; done) | (simp only [wp_ok, wp_exc, wp_bad, Res.bindS_ok, Res.bindS_exc, Res.bindS_bad]; first | rfl | exact wp_rfl rfl | exact wp_as rfl)
@[simp] theorem w_cmp2 {o o2 : Cop} {a b c : E} : wp (ev G (.cmp2 o o2 a b c) ρ κ) Q = wp (ev G a ρ κ) fun x κ => wp (ev G b ρ κ) fun y κ => wp (opCmp o x y κ) fun z κ => wp (match z with
    | .bl true => (ev G c ρ κ).bind fun w κ => opCmp o2 y w κ
    | .bl false => .ok (.bl false) κ
    | _ => .bad) Q := by
  simp only [ev, wp_bind] <;> first | rfl | exact wp_rfl rfl | exact wp_as rfl | (simp only [wp_ok, wp_exc, wp_bad, Res.bindS_ok, Res.bindS_exc, Res.bindS_bad]; done) | (simp only [wp_ok, wp_exc, wp_bad, Res.bindS_ok, Res.bindS_exc, Res.bindS_bad]; first | rfl | exact wp_rfl rfl | exact wp_as rfl)
@[simp] theorem w_and {a b : E} : wp (ev G (.and a b) ρ κ) Q = wp (ev G a ρ κ) fun x κ => wp (match x with
    | .bl true => ev G b ρ κ
    | .bl false => .ok (.bl false) κ
    | _ => .bad) Q := by
  simp only [ev, wp_bind] <;> first | rfl | exact wp_rfl rfl | exact wp_as rfl | (simp only [wp_ok, wp_exc, wp_bad, Res.bindS_ok, Res.bindS_exc, Res.bindS_bad]; done) | (simp only [wp_ok, wp_exc, wp_bad, Res.bindS_ok, Res.bindS_exc, Res.bindS_bad]; first | rfl | exact wp_rfl rfl | exact wp_as rfl)
@[simp] theorem w_or {a b : E} : wp (ev G (.or a b) ρ κ) Q = wp (ev G a ρ κ) fun x κ => wp (match x with
    | .bl true => .ok (.bl true) κ
    | .bl false => ev G b ρ κ
    | _ => .bad) Q := by
  simp only [ev, wp_bind] <;> first | rfl | exact wp_rfl rfl | exact wp_as rfl | (simp only [wp_ok, wp_exc, wp_bad, Res.bindS_ok, Res.bindS_exc, Res.bindS_bad]; done) | (simp only [wp_ok, wp_exc, wp_bad, Res.bindS_ok, Res.bindS_exc, Res.bindS_bad]; first | rfl | exact wp_rfl rfl | exact wp_as rfl)
@[simp] theorem w_one {a : E} : wp (ev G (.one a) ρ κ) Q = wp (ev G a ρ κ) Q := by
  simp only [ev, wp_bind] <;> first | rfl | exact wp_rfl rfl | exact wp_as rfl | (simp only [wp_ok, wp_exc, wp_bad, Res.bindS_ok, Res.bindS_exc, Res.bindS_bad]; done) | (simp only [wp_ok, wp_exc, wp_bad, Res.bindS_ok, Res.bindS_exc, Res.bindS_bad]; first | rfl | exact wp_rfl rfl | exact wp_as rfl)
theorem wp_match {β : Type} {t : Bool} {x y : Res β} {Q : β → Store → Prop} : wp (match t with | true => x | false => y) Q = if t = true then wp x Q else wp y Q := by cases t <;> first | rfl | exact wp_rfl rfl | exact wp_as rfl | (simp only [wp_ok, wp_exc, wp_bad, Res.bindS_ok, Res.bindS_exc, Res.bindS_bad]; done) | (simp only [wp_ok, wp_exc, wp_bad, Res.bindS_ok, Res.bindS_exc, Res.bindS_bad]; first | rfl | exact wp_rfl rfl | exact wp_as rfl)
@[simp] theorem w_ife {c : T} {a b : E} : wp (ev G (.ife c a b) ρ κ) Q = wp (evT G c ρ κ) fun t κ => if t = true then wp (ev G a ρ κ) Q else wp (ev G b ρ κ) Q := by
  simp only [ev, wp_bind]
  congr 1; funext t κ; cases t <;> first | rfl | exact wp_rfl rfl | exact wp_as rfl | (simp only [wp_ok, wp_exc, wp_bad, Res.bindS_ok, Res.bindS_exc, Res.bindS_bad]; done) | (simp only [wp_ok, wp_exc, wp_bad, Res.bindS_ok, Res.bindS_exc, Res.bindS_bad]; first | rfl | exact wp_rfl rfl | exact wp_as rfl)
@[simp] theorem w_tup {es : List E} : wp (ev G (.tup es) ρ κ) Q = wp (evL G es ρ κ) fun ds κ => wp (if ds.length ≤ 16777216 then .ok (.tup ds) κ else .bad) Q := by
  simp only [ev, wp_bind] <;> first | rfl | exact wp_rfl rfl | exact wp_as rfl | (simp only [wp_ok, wp_exc, wp_bad, Res.bindS_ok, Res.bindS_exc, Res.bindS_bad]; done) | (simp only [wp_ok, wp_exc, wp_bad, Res.bindS_ok, Res.bindS_exc, Res.bindS_bad]; first | rfl | exact wp_rfl rfl | exact wp_as rfl)
@[simp] theorem w_lst {es : List E} : wp (ev G (.lst es) ρ κ) Q = wp (evL G es ρ κ) fun ds κ => wp (if ds.length ≤ 16777216 then .ok (.lst ds) κ else .bad) Q := by
  simp only [ev, wp_bind] <;> first | rfl | exact wp_rfl rfl | exact wp_as rfl | (simp only [wp_ok, wp_exc, wp_bad, Res.bindS_ok, Res.bindS_exc, Res.bindS_bad]; done) | (simp only [wp_ok, wp_exc, wp_bad, Res.bindS_ok, Res.bindS_exc, Res.bindS_bad]; first | rfl | exact wp_rfl rfl | exact wp_as rfl)
@[simp] theorem w_lstC {es : List E} : wp (ev G (.lstC es) ρ κ) Q = wp (evL G es ρ κ) fun ds κ => wp (if ds.length ≤ 16777216 then .ok (.cell κ.length) (κ ++ [.lst ds]) else .bad) Q := by
  simp only [ev, wp_bind] <;> first | rfl | exact wp_rfl rfl | exact wp_as rfl | (simp only [wp_ok, wp_exc, wp_bad, Res.bindS_ok, Res.bindS_exc, Res.bindS_bad]; done) | (simp only [wp_ok, wp_exc, wp_bad, Res.bindS_ok, Res.bindS_exc, Res.bindS_bad]; first | rfl | exact wp_rfl rfl | exact wp_as rfl)
@[simp] theorem w_sub {a i : E} : wp (ev G (.sub a i) ρ κ) Q = wp (ev G a ρ κ) fun x κ => wp (ev G i ρ κ) fun y κ => wp (opSub x y κ) Q := by
  simp only [ev, wp_bind] <;> first | rfl | exact wp_rfl rfl | exact wp_as rfl | (simp only [wp_ok, wp_exc, wp_bad, Res.bindS_ok, Res.bindS_exc, Res.bindS_bad]; done) | (simp only [wp_ok, wp_exc, wp_bad, Res.bindS_ok, Res.bindS_exc, Res.bindS_bad]; first | rfl | exact wp_rfl rfl | exact wp_as rfl)
@[simp] theorem w_f1 {f : F1} {a : E} : wp (ev G (.f1 f a) ρ κ) Q = wp (ev G a ρ κ) fun x κ => wp (opF1 f x κ) Q := by
  simp only [ev, wp_bind] <;> first | rfl | exact wp_rfl rfl | exact wp_as rfl | (simp only [wp_ok, wp_exc, wp_bad, Res.bindS_ok, Res.bindS_exc, Res.bindS_bad]; done) | (simp only [wp_ok, wp_exc, wp_bad, Res.bindS_ok, Res.bindS_exc, Res.bindS_bad]; first | rfl | exact wp_rfl rfl | exact wp_as rfl)
@[simp] theorem w_isin {a : E} {t : Ty} : wp (ev G (.isin a t) ρ κ) Q = wp (ev G a ρ κ) fun x κ => wp (match opIsT G t x κ with | some b => .ok (.bl b) κ | none => .bad) Q := by
  simp only [ev, wp_bind] <;> first | rfl | exact wp_rfl rfl | exact wp_as rfl | (simp only [wp_ok, wp_exc, wp_bad, Res.bindS_ok, Res.bindS_exc, Res.bindS_bad]; done) | (simp only [wp_ok, wp_exc, wp_bad, Res.bindS_ok, Res.bindS_exc, Res.bindS_bad]; first | rfl | exact wp_rfl rfl | exact wp_as rfl)
@[simp] theorem w_call {f : Str} {es : List E} : wp (ev G (.call f es) ρ κ) Q = wp (evL G es ρ κ) fun ds κ => wp (G.call f ds κ) Q := by
  simp only [ev, wp_bind] <;> first | rfl | exact wp_rfl rfl | exact wp_as rfl | (simp only [wp_ok, wp_exc, wp_bad, Res.bindS_ok, Res.bindS_exc, Res.bindS_bad]; done) | (simp only [wp_ok, wp_exc, wp_bad, Res.bindS_ok, Res.bindS_exc, Res.bindS_bad]; first | rfl | exact wp_rfl rfl | exact wp_as rfl)
@[simp] theorem w_scall {c m : Str} {es : List E} : wp (ev G (.scall c m es) ρ κ) Q = wp (evL G es ρ κ) fun ds κ => wp (G.call (c ++ "." ++ m) ds κ) Q := by
  simp only [ev, wp_bind] <;> first | rfl | exact wp_rfl rfl | exact wp_as rfl | (simp only [wp_ok, wp_exc, wp_bad, Res.bindS_ok, Res.bindS_exc, Res.bindS_bad]; done) | (simp only [wp_ok, wp_exc, wp_bad, Res.bindS_ok, Res.bindS_exc, Res.bindS_bad]; first | rfl | exact wp_rfl rfl | exact wp_as rfl)
@[simp] theorem w_join {a b : E} : wp (ev G (.join a b) ρ κ) Q = wp (ev G a ρ κ) fun x κ => wp (match x with
    | .str z => (ev G b ρ κ).bind fun y κ => opJoin (.str z) y κ
    | _ => .bad) Q := by
  simp only [ev, wp_bind] <;> first | rfl | exact wp_rfl rfl | exact wp_as rfl | (simp only [wp_ok, wp_exc, wp_bad, Res.bindS_ok, Res.bindS_exc, Res.bindS_bad]; done) | (simp only [wp_ok, wp_exc, wp_bad, Res.bindS_ok, Res.bindS_exc, Res.bindS_bad]; first | rfl | exact wp_rfl rfl | exact wp_as rfl)
@[simp] theorem w_max2 {a b : E} : wp (ev G (.max2 a b) ρ κ) Q = wp (ev G a ρ κ) fun x κ => wp (ev G b ρ κ) fun y κ => wp (match x, y with | .int i, .int j => .ok (.int (if j > i then j else i)) κ | _, _ => .bad) Q := by
  simp only [ev, wp_bind] <;> first | rfl | exact wp_rfl rfl | exact wp_as rfl | (simp only [wp_ok, wp_exc, wp_bad, Res.bindS_ok, Res.bindS_exc, Res.bindS_bad]; done) | (simp only [wp_ok, wp_exc, wp_bad, Res.bindS_ok, Res.bindS_exc, Res.bindS_bad]; first | rfl | exact wp_rfl rfl | exact wp_as rfl)
@[simp] theorem w_min2 {a b : E} : wp (ev G (.min2 a b) ρ κ) Q = wp (ev G a ρ κ) fun x κ => wp (ev G b ρ κ) fun y κ => wp (match x, y with | .int i, .int j => .ok (.int (if j < i then j else i)) κ | _, _ => .bad) Q := by
  simp only [ev, wp_bind] <;> first | rfl | exact wp_rfl rfl | exact wp_as rfl | (simp only [wp_ok, wp_exc, wp_bad, Res.bindS_ok, Res.bindS_exc, Res.bindS_bad]; done) | (simp only [wp_ok, wp_exc, wp_bad, Res.bindS_ok, Res.bindS_exc, Res.bindS_bad]; first | rfl | exact wp_rfl rfl | exact wp_as rfl)
@[simp] theorem w_dic {es : List E} : wp (ev G (.dic es) ρ κ) Q = wp (evL G es ρ κ) fun ds κ => wp (opDic ds κ) Q := by
  simp only [ev, wp_bind] <;> first | rfl | exact wp_rfl rfl | exact wp_as rfl | (simp only [wp_ok, wp_exc, wp_bad, Res.bindS_ok, Res.bindS_exc, Res.bindS_bad]; done) | (simp only [wp_ok, wp_exc, wp_bad, Res.bindS_ok, Res.bindS_exc, Res.bindS_bad]; first | rfl | exact wp_rfl rfl | exact wp_as rfl)
@[simp] theorem w_slice {a lo hi : E} : wp (ev G (.slice a lo hi) ρ κ) Q = wp (ev G a ρ κ) fun x κ => wp (if partE lo = true then .ok none κ else (ev G lo ρ κ).bind fun l κ => opPart l κ) fun l κ => wp (if partE hi = true then .ok none κ else (ev G hi ρ κ).bind fun h κ => opPart h κ) fun h κ => wp (opSlice x l h κ) Q := by
  simp only [ev, wp_bind] <;> first | rfl | exact wp_rfl rfl | exact wp_as rfl | (simp only [wp_ok, wp_exc, wp_bad, Res.bindS_ok, Res.bindS_exc, Res.bindS_bad]; done) | (simp only [wp_ok, wp_exc, wp_bad, Res.bindS_ok, Res.bindS_exc, Res.bindS_bad]; first | rfl | exact wp_rfl rfl | exact wp_as rfl)
@[simp] theorem w_attr {a : E} {f : Str} : wp (ev G (.attr a f) ρ κ) Q = wp (ev G a ρ κ) fun x κ => wp (opAttr G x f κ) Q := by
  simp only [ev, wp_bind] <;> first | rfl | exact wp_rfl rfl | exact wp_as rfl | (simp only [wp_ok, wp_exc, wp_bad, Res.bindS_ok, Res.bindS_exc, Res.bindS_bad]; done) | (simp only [wp_ok, wp_exc, wp_bad, Res.bindS_ok, Res.bindS_exc, Res.bindS_bad]; first | rfl | exact wp_rfl rfl | exact wp_as rfl)
@[simp] theorem w_meth {a : E} {m : Str} {es : List E} : wp (ev G (.meth a m es) ρ κ) Q = wp (ev G a ρ κ) fun x κ => wp (opMeth G x m κ) fun g κ => wp (evL G es ρ κ) fun ds κ => wp (G.call g (x :: ds) κ) Q := by
  simp only [ev, wp_bind] <;> first | rfl | exact wp_rfl rfl | exact wp_as rfl | (simp only [wp_ok, wp_exc, wp_bad, Res.bindS_ok, Res.bindS_exc, Res.bindS_bad]; done) | (simp only [wp_ok, wp_exc, wp_bad, Res.bindS_ok, Res.bindS_exc, Res.bindS_bad]; first | rfl | exact wp_rfl rfl | exact wp_as rfl)
@[simp] theorem w_nil : wp (evL G [] ρ κ) QL = QL [] κ := wp_rfl rfl
@[simp] theorem w_cons {e : E} {es : List E} : wp (evL G (e :: es) ρ κ) QL = wp (ev G e ρ κ) fun x κ => wp (evL G es ρ κ) fun xs κ => QL (x :: xs) κ := by
  simp only [evL, wp_bind] <;> first | rfl | exact wp_rfl rfl | exact wp_as rfl | (simp only [wp_ok, wp_exc, wp_bad, Res.bindS_ok, Res.bindS_exc, Res.bindS_bad]; done) | (simp only [wp_ok, wp_exc, wp_bad, Res.bindS_ok, Res.bindS_exc, Res.bindS_bad]; first | rfl | exact wp_rfl rfl | exact wp_as rfl)
/-- a comprehension's turn -/
def cstep (G : Gam) (t : Tg) (own : List Nat) (c : List T) (e : E) (ρ : Env') (d : D) (κ : Store) : Res (Option D) := match bindT t d (wipeE ρ own) with
  | none => .bad
  | some ρ' => (evC G c ρ' κ).bind fun b κ => (match b with
    | true => (ev G e ρ' κ).bind fun x κ => .ok (some x) κ
    | false => .ok none κ)
@[simp] theorem w_comp {t : Tg} {s : Src} {c : List T} {e : E} {own : List Nat} : wp (ev G (.comp t s c e own) ρ κ) Q = wp (evSrc G s ρ κ) fun J κ => wp (if J.len ≤ 16777216 then (compL J (cstep G t own c e ρ) J.len [] κ) else .bad) fun ds κ => Q (.lst ds) κ := by
  simp only [ev, wp_bind]
  congr 1
  funext J κ
  by_cases h : J.len ≤ 16777216
  · simp only [if_pos h, wp_bind, wp_nox, wp_ok]
    first | rfl | exact wp_rfl rfl | exact wp_as rfl | (simp only [wp_ok, wp_exc, wp_bad, Res.bindS_ok, Res.bindS_exc, Res.bindS_bad]; done) | (simp only [wp_ok, wp_exc, wp_bad, Res.bindS_ok, Res.bindS_exc, Res.bindS_bad]; first | rfl | exact wp_rfl rfl | exact wp_as rfl)
  · simp only [if_neg h]
    first | rfl | exact wp_rfl rfl | exact wp_as rfl | (simp only [wp_ok, wp_exc, wp_bad, Res.bindS_ok, Res.bindS_exc, Res.bindS_bad]; done) | (simp only [wp_ok, wp_exc, wp_bad, Res.bindS_ok, Res.bindS_exc, Res.bindS_bad]; first | rfl | exact wp_rfl rfl | exact wp_as rfl)
@[simp] theorem w_val {e : E} : wp (evSrc G (.val e) ρ κ) QI = wp (ev G e ρ κ) fun x κ => wp (match itemsOf x κ with | some J => .ok J κ | none => .bad) QI := by
  simp only [evSrc, wp_bind] <;> first | rfl | exact wp_rfl rfl | exact wp_as rfl | (simp only [wp_ok, wp_exc, wp_bad, Res.bindS_ok, Res.bindS_exc, Res.bindS_bad]; done) | (simp only [wp_ok, wp_exc, wp_bad, Res.bindS_ok, Res.bindS_exc, Res.bindS_bad]; first | rfl | exact wp_rfl rfl | exact wp_as rfl)
@[simp] theorem w_rng1 {e : E} : wp (evSrc G (.rng1 e) ρ κ) QI = wp (ev G e ρ κ) fun x κ => wp (match x with
    | .int n => if -1000000000 < n ∧ n < 1000000000 then .ok (.fix (rangeD 0 n.toNat)) κ else .bad
    | _ => .bad) QI := by
  simp only [evSrc, wp_bind] <;> first | rfl | exact wp_rfl rfl | exact wp_as rfl | (simp only [wp_ok, wp_exc, wp_bad, Res.bindS_ok, Res.bindS_exc, Res.bindS_bad]; done) | (simp only [wp_ok, wp_exc, wp_bad, Res.bindS_ok, Res.bindS_exc, Res.bindS_bad]; first | rfl | exact wp_rfl rfl | exact wp_as rfl)
@[simp] theorem w_rng2 {a b : E} : wp (evSrc G (.rng2 a b) ρ κ) QI = wp (ev G a ρ κ) fun x κ => wp (ev G b ρ κ) fun y κ => wp (match x, y with
    | .int m, .int n => if (-1000000000 < m ∧ m < 1000000000) ∧ (-1000000000 < n ∧ n < 1000000000) then .ok (.fix (rangeD m (n - m).toNat)) κ else .bad
    | _, _ => .bad) QI := by
  simp only [evSrc, wp_bind] <;> first | rfl | exact wp_rfl rfl | exact wp_as rfl | (simp only [wp_ok, wp_exc, wp_bad, Res.bindS_ok, Res.bindS_exc, Res.bindS_bad]; done) | (simp only [wp_ok, wp_exc, wp_bad, Res.bindS_ok, Res.bindS_exc, Res.bindS_bad]; first | rfl | exact wp_rfl rfl | exact wp_as rfl)
@[simp] theorem w_c0 : wp (evC G [] ρ κ) QT = QT true κ := wp_rfl rfl
@[simp] theorem w_c1 {c : T} : wp (evC G [c] ρ κ) QT = wp (evT G c ρ κ) QT := wp_as rfl
@[simp] theorem t_e {a : E} : wp (evT G (.e a) ρ κ) QT = wp (ev G a ρ κ) fun x κ => wp (match truth x κ with | some b => .ok b κ | none => .bad) QT := by
  simp only [evT, wp_bind] <;> first | rfl | exact wp_rfl rfl | exact wp_as rfl | (simp only [wp_ok, wp_exc, wp_bad, Res.bindS_ok, Res.bindS_exc, Res.bindS_bad]; done) | (simp only [wp_ok, wp_exc, wp_bad, Res.bindS_ok, Res.bindS_exc, Res.bindS_bad]; first | rfl | exact wp_rfl rfl | exact wp_as rfl)
theorem cmp_truth {o : Cop} {x y : D} : wp ((opCmp o x y κ).bind fun x κ => (match truth x κ with | some b => .ok b κ | none => .bad)) QT = wp (opCmp o x y κ) fun z κ => wp (match z with | .bl b => .ok b κ | _ => .bad) QT := by
  rw [wp_bind]
  cases h : opCmp o x y κ with
  | ok z κ' =>
    have hb : ∃ b, z = .bl b := by
      unfold opCmp at h
      split at h <;> first | (cases h; done) | (split at h <;> first | (cases h; done) | (cases h; exact ⟨_, rfl⟩) | (split at h <;> first | (cases h; done) | (cases h; exact ⟨_, rfl⟩)))
    obtain ⟨b, rfl⟩ := hb
    first | rfl | exact wp_rfl rfl | exact wp_as rfl | (simp only [wp_ok, wp_exc, wp_bad, Res.bindS_ok, Res.bindS_exc, Res.bindS_bad]; done) | (simp only [wp_ok, wp_exc, wp_bad, Res.bindS_ok, Res.bindS_exc, Res.bindS_bad]; first | rfl | exact wp_rfl rfl | exact wp_as rfl)
  | exc c fs κ' => first | rfl | exact wp_rfl rfl | exact wp_as rfl | (simp only [wp_ok, wp_exc, wp_bad, Res.bindS_ok, Res.bindS_exc, Res.bindS_bad]; done) | (simp only [wp_ok, wp_exc, wp_bad, Res.bindS_ok, Res.bindS_exc, Res.bindS_bad]; first | rfl | exact wp_rfl rfl | exact wp_as rfl)
  | bad => first | rfl | exact wp_rfl rfl | exact wp_as rfl | (simp only [wp_ok, wp_exc, wp_bad, Res.bindS_ok, Res.bindS_exc, Res.bindS_bad]; done) | (simp only [wp_ok, wp_exc, wp_bad, Res.bindS_ok, Res.bindS_exc, Res.bindS_bad]; first | rfl | exact wp_rfl rfl | exact wp_as rfl)
@[simp] theorem t_cmp {o : Cop} {a b : E} : wp (evT G (.cmp o a b) ρ κ) QT = wp (ev G a ρ κ) fun x κ => wp (ev G b ρ κ) fun y κ => wp (opCmp o x y κ) fun z κ => wp (match z with | .bl b => .ok b κ | _ => .bad) QT := by
  simp only [evT, wp_bind]
  congr 1; funext x κ; congr 1; funext y κ
  rw [← cmp_truth, wp_bind]
  all_goals first | rfl | exact wp_rfl rfl | exact wp_as rfl | (simp only [wp_ok, wp_exc, wp_bad, Res.bindS_ok, Res.bindS_exc, Res.bindS_bad]; done) | (simp only [wp_ok, wp_exc, wp_bad, Res.bindS_ok, Res.bindS_exc, Res.bindS_bad]; first | rfl | exact wp_rfl rfl | exact wp_as rfl)
@[simp] theorem t_cmp2 {o o2 : Cop} {a b c : E} : wp (evT G (.cmp2 o o2 a b c) ρ κ) QT = wp (ev G a ρ κ) fun x κ => wp (ev G b ρ κ) fun y κ => wp (opCmp o x y κ) fun z κ => wp ((match z with
    | .bl true => (ev G c ρ κ).bind fun w κ => opCmp o2 y w κ
    | .bl false => .ok (.bl false) κ
    | _ => .bad).bind fun x κ => (match truth x κ with | some b => .ok b κ | none => .bad)) QT := by
  simp only [evT, wp_bind] <;> first | rfl | exact wp_rfl rfl | exact wp_as rfl | (simp only [wp_ok, wp_exc, wp_bad, Res.bindS_ok, Res.bindS_exc, Res.bindS_bad]; done) | (simp only [wp_ok, wp_exc, wp_bad, Res.bindS_ok, Res.bindS_exc, Res.bindS_bad]; first | rfl | exact wp_rfl rfl | exact wp_as rfl)
@[simp] theorem t_not {a : T} : wp (evT G (.not a) ρ κ) QT = wp (evT G a ρ κ) fun b κ => QT (!b) κ := by
  simp only [evT, wp_bind] <;> first | rfl | exact wp_rfl rfl | exact wp_as rfl | (simp only [wp_ok, wp_exc, wp_bad, Res.bindS_ok, Res.bindS_exc, Res.bindS_bad]; done) | (simp only [wp_ok, wp_exc, wp_bad, Res.bindS_ok, Res.bindS_exc, Res.bindS_bad]; first | rfl | exact wp_rfl rfl | exact wp_as rfl)
@[simp] theorem t_and {a b : T} : wp (evT G (.and a b) ρ κ) QT = wp (evT G a ρ κ) fun t κ => if t = true then wp (evT G b ρ κ) QT else QT false κ := by
  simp only [evT, wp_bind]
  congr 1; funext t κ; cases t <;> first | rfl | exact wp_rfl rfl | exact wp_as rfl | (simp only [wp_ok, wp_exc, wp_bad, Res.bindS_ok, Res.bindS_exc, Res.bindS_bad]; done) | (simp only [wp_ok, wp_exc, wp_bad, Res.bindS_ok, Res.bindS_exc, Res.bindS_bad]; first | rfl | exact wp_rfl rfl | exact wp_as rfl)
@[simp] theorem t_or {a b : T} : wp (evT G (.or a b) ρ κ) QT = wp (evT G a ρ κ) fun t κ => if t = true then QT true κ else wp (evT G b ρ κ) QT := by
  simp only [evT, wp_bind]
  congr 1; funext t κ; cases t <;> first | rfl | exact wp_rfl rfl | exact wp_as rfl | (simp only [wp_ok, wp_exc, wp_bad, Res.bindS_ok, Res.bindS_exc, Res.bindS_bad]; done) | (simp only [wp_ok, wp_exc, wp_bad, Res.bindS_ok, Res.bindS_exc, Res.bindS_bad]; first | rfl | exact wp_rfl rfl | exact wp_as rfl)
@[simp] theorem t_one {a : T} : wp (evT G (.one a) ρ κ) QT = wp (evT G a ρ κ) QT := by
  simp only [evT, wp_bind] <;> first | rfl | exact wp_rfl rfl | exact wp_as rfl | (simp only [wp_ok, wp_exc, wp_bad, Res.bindS_ok, Res.bindS_exc, Res.bindS_bad]; done) | (simp only [wp_ok, wp_exc, wp_bad, Res.bindS_ok, Res.bindS_exc, Res.bindS_bad]; first | rfl | exact wp_rfl rfl | exact wp_as rfl)
@[simp] theorem t_ife {c a b : T} : wp (evT G (.ife c a b) ρ κ) QT = wp (evT G c ρ κ) fun t κ => if t = true then wp (evT G a ρ κ) QT else wp (evT G b ρ κ) QT := by
  simp only [evT, wp_bind]
  congr 1; funext t κ; cases t <;> first | rfl | exact wp_rfl rfl | exact wp_as rfl | (simp only [wp_ok, wp_exc, wp_bad, Res.bindS_ok, Res.bindS_exc, Res.bindS_bad]; done) | (simp only [wp_ok, wp_exc, wp_bad, Res.bindS_ok, Res.bindS_exc, Res.bindS_bad]; first | rfl | exact wp_rfl rfl | exact wp_as rfl)
/-- within a statement: nothing is raised, or more is to be said -/
theorem wp_bindS_eq {β : Type} {r : Res β} {f : β → Store → Res Flow} (hx : ∀ c fs κ', r ≠ .exc c fs κ') : wp (r.bindS ρ f) QF = wp r fun a κ => wp (f a κ) QF := by
  cases r with
  | ok a κ => first | rfl | exact wp_rfl rfl | exact wp_as rfl | (simp only [wp_ok, wp_exc, wp_bad, Res.bindS_ok, Res.bindS_exc, Res.bindS_bad]; done) | (simp only [wp_ok, wp_exc, wp_bad, Res.bindS_ok, Res.bindS_exc, Res.bindS_bad]; first | rfl | exact wp_rfl rfl | exact wp_as rfl)
  | exc c fs κ' => exact absurd rfl (hx _ _ _)
  | bad => first | rfl | exact wp_rfl rfl | exact wp_as rfl | (simp only [wp_ok, wp_exc, wp_bad, Res.bindS_ok, Res.bindS_exc, Res.bindS_bad]; done) | (simp only [wp_ok, wp_exc, wp_bad, Res.bindS_ok, Res.bindS_exc, Res.bindS_bad]; first | rfl | exact wp_rfl rfl | exact wp_as rfl)
theorem wp_bindO {β : Type} {r : Res β} {g : β → Flow} (h : wp r fun a κ => QF (g a) κ) : wp (r.bindS ρ fun a κ => .ok (g a) κ) QF := wp_bindS (wp_mono h fun a κ q => by rw [wp_ok]; exact q)
theorem s_asg' {t : Tg} {e : E} (h : wp (ev G e ρ κ) fun x κ => wp (bindR t x ρ κ) QF) : wp (evS G (.asg t e) ρ κ) QF := wp_bindS h
theorem s_expr' {e : E} (h : wp (ev G e ρ κ) fun _ κ => QF (.next ρ) κ) : wp (evS G (.expr e) ρ κ) QF := wp_bindO h
theorem s_ret' {e : E} (h : wp (ev G e ρ κ) fun x κ => QF (.ret x) κ) : wp (evS G (.ret e) ρ κ) QF := wp_bindO h
theorem s_if' {c : T} {a b : List S} (h : wp (evT G c ρ κ) fun t κ => if t = true then wp (evSs G a ρ κ) QF else wp (evSs G b ρ κ) QF) : wp (evS G (.ifs c a b) ρ κ) QF := wp_bindS (wp_mono h fun t κ q => by cases t <;> exact q)
theorem s_for' {t : Tg} {s : Src} {b : List S} (h : wp (evSrc G s ρ κ) fun J κ => wp (forL J (fun d ρ κ => match bindT t d ρ with
      | none => .bad
      | some ρ' => evSs G b ρ' κ) J.len ρ κ) QF) : wp (evS G (.for_ t s b) ρ κ) QF := wp_bindS h
theorem s_setI' {o i e : E} (h : wp (ev G e ρ κ) fun v κ => wp (ev G o ρ κ) fun x κ => wp (ev G i ρ κ) fun y κ => wp (opSetI x y v κ) fun _ κ => QF (.next ρ) κ) : wp (evS G (.setI o i e) ρ κ) QF :=
  wp_bindS (wp_mono h fun v κ q => wp_bindS (wp_mono q fun x κ q => wp_bindS (wp_mono q fun y κ q => wp_bindO q)))
theorem s_par' {i j : Nat} {a b : E} (h : wp (ev G a ρ κ) fun x κ => wp (ev G b ρ κ) fun y κ => QF (.next ((ρ.set i (some x)).set j (some y))) κ) : wp (evS G (.par i j a b) ρ κ) QF :=
  wp_bindS (wp_mono h fun v κ q => wp_bindO q)
theorem s_par3' {i j l : Nat} {a b c : E} (h : wp (ev G a ρ κ) fun x κ => wp (ev G b ρ κ) fun y κ => wp (ev G c ρ κ) fun z κ => QF (.next (((ρ.set i (some x)).set j (some y)).set l (some z))) κ) : wp (evS G (.par3 i j l a b c) ρ κ) QF :=
  wp_bindS (wp_mono h fun v κ q => wp_bindS (wp_mono q fun x κ q => wp_bindO q))
theorem s_app' {o e : E} (h : wp (ev G o ρ κ) fun x κ => wp (opIsL x κ) fun _ κ => wp (ev G e ρ κ) fun v κ => wp (opApp x v κ) fun _ κ => QF (.next ρ) κ) : wp (evS G (.app o e) ρ κ) QF :=
  wp_bindS (wp_mono h fun v κ q => wp_bindS (wp_mono q fun x κ q => wp_bindS (wp_mono q fun y κ q => wp_bindO q)))
theorem ss_nil' (h : QF (.next ρ) κ) : wp (evSs G [] ρ κ) QF := wp_pure rfl h
theorem ss_cons' {s : S} {ss : List S} (h : wp (evS G s ρ κ) fun f κ => (match f with
    | .next ρ' => wp (evSs G ss ρ' κ) QF
    | f => QF f κ)) : wp (evSs G (s :: ss) ρ κ) QF := by
  unfold evSs
  rw [wp_bind]
  refine wp_mono h fun f κ q => ?_
  cases f <;> first | exact q | exact wp_pure rfl q
theorem ss_ret' {e : E} {ss : List S} (h : wp (ev G e ρ κ) fun x κ => QF (.ret x) κ) : wp (evSs G (.ret e :: ss) ρ κ) QF := ss_cons' (s_ret' h)
theorem ss_asg' {i : Nat} {e : E} {ss : List S} (h : wp (ev G e ρ κ) fun x κ => wp (evSs G ss (ρ.set i (some x)) κ) QF) : wp (evSs G (.asg (.nm i) e :: ss) ρ κ) QF := ss_cons' (s_asg' (wp_mono h fun x κ q => wp_pure rfl q))
theorem ss_asgT' {t : Tg} {e : E} {ss : List S} (h : wp (ev G e ρ κ) fun x κ => wp (bindR t x ρ κ) fun f κ => (match f with
    | .next ρ' => wp (evSs G ss ρ' κ) QF
    | f => QF f κ)) : wp (evSs G (.asg t e :: ss) ρ κ) QF := ss_cons' (s_asg' h)
theorem ss_expr' {e : E} {ss : List S} (h : wp (ev G e ρ κ) fun _ κ => wp (evSs G ss ρ κ) QF) : wp (evSs G (.expr e :: ss) ρ κ) QF := ss_cons' (s_expr' h)
/-- if, with what comes behind it -/
theorem ss_if' {c : T} {a b : List S} {ss : List S} (h : wp (evT G c ρ κ) fun t κ => if t = true then wp (evSs G a ρ κ) (fun f κ => (match f with
    | .next ρ' => wp (evSs G ss ρ' κ) QF
    | f => QF f κ)) else wp (evSs G b ρ κ) (fun f κ => (match f with
    | .next ρ' => wp (evSs G ss ρ' κ) QF
    | f => QF f κ))) : wp (evSs G (.ifs c a b :: ss) ρ κ) QF := ss_cons' (s_if' h)
theorem ss_setI' {o i e : E} {ss : List S} (h : wp (ev G e ρ κ) fun v κ => wp (ev G o ρ κ) fun x κ => wp (ev G i ρ κ) fun y κ => wp (opSetI x y v κ) fun _ κ => wp (evSs G ss ρ κ) QF) : wp (evSs G (.setI o i e :: ss) ρ κ) QF := ss_cons' (s_setI' h)
theorem ss_par' {i j : Nat} {a b : E} {ss : List S} (h : wp (ev G a ρ κ) fun x κ => wp (ev G b ρ κ) fun y κ => wp (evSs G ss ((ρ.set i (some x)).set j (some y)) κ) QF) : wp (evSs G (.par i j a b :: ss) ρ κ) QF := ss_cons' (s_par' h)
theorem ss_par3' {i j l : Nat} {a b c : E} {ss : List S} (h : wp (ev G a ρ κ) fun x κ => wp (ev G b ρ κ) fun y κ => wp (ev G c ρ κ) fun z κ => wp (evSs G ss (((ρ.set i (some x)).set j (some y)).set l (some z)) κ) QF) : wp (evSs G (.par3 i j l a b c :: ss) ρ κ) QF := ss_cons' (s_par3' h)
theorem ss_app' {o e : E} {ss : List S} (h : wp (ev G o ρ κ) fun x κ => wp (opIsL x κ) fun _ κ => wp (ev G e ρ κ) fun v κ => wp (opApp x v κ) fun _ κ => wp (evSs G ss ρ κ) QF) : wp (evSs G (.app o e :: ss) ρ κ) QF := ss_cons' (s_app' h)
end
/-! ### operations, at known values -/
section
variable {κ : Store} {Q : D → Store → Prop} {i j : Int} {QU : Unit → Store → Prop}
@[simp] theorem o_add : wp (opBin .add (.int i) (.int j) κ) Q = Q (.int (i + j)) κ := wp_rfl rfl
@[simp] theorem o_sub : wp (opBin .sub (.int i) (.int j) κ) Q = Q (.int (i - j)) κ := wp_rfl rfl
theorem o_mul (h1 : -big < i ∧ i < big) (h2 : -big < j ∧ j < big) : wp (opBin .mul (.int i) (.int j) κ) Q = Q (.int (i * j)) κ := by
  unfold opBin seqBin cellOf scBin
  dsimp only
  rw [if_pos ⟨h1, h2⟩]
  first | rfl | exact wp_rfl rfl | exact wp_as rfl | (simp only [wp_ok, wp_exc, wp_bad, Res.bindS_ok, Res.bindS_exc, Res.bindS_bad]; done) | (simp only [wp_ok, wp_exc, wp_bad, Res.bindS_ok, Res.bindS_exc, Res.bindS_bad]; first | rfl | exact wp_rfl rfl | exact wp_as rfl)
theorem o_mod (h : 0 < j) : wp (opBin .mod (.int i) (.int j) κ) Q = Q (.int (i % j)) κ := by
  unfold opBin seqBin cellOf scBin
  dsimp only
  rw [if_pos h]
  first | rfl | exact wp_rfl rfl | exact wp_as rfl | (simp only [wp_ok, wp_exc, wp_bad, Res.bindS_ok, Res.bindS_exc, Res.bindS_bad]; done) | (simp only [wp_ok, wp_exc, wp_bad, Res.bindS_ok, Res.bindS_exc, Res.bindS_bad]; first | rfl | exact wp_rfl rfl | exact wp_as rfl)
theorem o_div (h : 0 < j ∧ j < big) : wp (opBin .fdiv (.int i) (.int j) κ) Q = Q (.int (i / j)) κ := by
  unfold opBin seqBin cellOf scBin
  dsimp only
  rw [if_pos h]
  first | rfl | exact wp_rfl rfl | exact wp_as rfl | (simp only [wp_ok, wp_exc, wp_bad, Res.bindS_ok, Res.bindS_exc, Res.bindS_bad]; done) | (simp only [wp_ok, wp_exc, wp_bad, Res.bindS_ok, Res.bindS_exc, Res.bindS_bad]; first | rfl | exact wp_rfl rfl | exact wp_as rfl)
theorem o_pow (h1 : 0 ≤ j ∧ j ≤ 100) (h2 : -18446744073709551616 < i ∧ i < 18446744073709551616) : wp (opBin .pow (.int i) (.int j) κ) Q = Q (.int (i ^ j.toNat)) κ := by
  unfold opBin seqBin cellOf scBin
  dsimp only
  rw [if_pos ⟨h1, h2⟩]
  first | rfl | exact wp_rfl rfl | exact wp_as rfl | (simp only [wp_ok, wp_exc, wp_bad, Res.bindS_ok, Res.bindS_exc, Res.bindS_bad]; done) | (simp only [wp_ok, wp_exc, wp_bad, Res.bindS_ok, Res.bindS_exc, Res.bindS_bad]; first | rfl | exact wp_rfl rfl | exact wp_as rfl)
@[simp] theorem o_odd : wp (opBin .band (.int i) (.int 1) κ) Q = Q (.int (i % 2)) κ := wp_rfl rfl
theorem o_cat {x y : Str} (h : x.length + y.length ≤ 16777216) : wp (opBin .add (.str x) (.str y) κ) Q = Q (.str (x ++ y)) κ := by
  unfold opBin seqBin cellOf scBin
  dsimp only
  rw [if_pos h]
  first | rfl | exact wp_rfl rfl | exact wp_as rfl | (simp only [wp_ok, wp_exc, wp_bad, Res.bindS_ok, Res.bindS_exc, Res.bindS_bad]; done) | (simp only [wp_ok, wp_exc, wp_bad, Res.bindS_ok, Res.bindS_exc, Res.bindS_bad]; first | rfl | exact wp_rfl rfl | exact wp_as rfl)
@[simp] theorem o_eq {d e : D} : wp (opCmp .eq d e κ) Q = wp (match eqS d e with | some b => .ok (.bl b) κ | none => (match eqO d e κ with | some b => .ok (.bl b) κ | none => .bad)) Q := wp_as rfl
@[simp] theorem o_ne {d e : D} : wp (opCmp .ne d e κ) Q = wp (match eqS d e with | some b => .ok (.bl (!b)) κ | none => (match eqO d e κ with | some b => .ok (.bl (!b)) κ | none => .bad)) Q := wp_as rfl
@[simp] theorem o_lt : wp (opCmp .lt (.int i) (.int j) κ) Q = Q (.bl (decide (i < j))) κ := wp_rfl rfl
@[simp] theorem o_le : wp (opCmp .le (.int i) (.int j) κ) Q = Q (.bl (decide (i ≤ j))) κ := wp_rfl rfl
@[simp] theorem o_gt : wp (opCmp .gt (.int i) (.int j) κ) Q = Q (.bl (decide (j < i))) κ := wp_rfl rfl
@[simp] theorem o_ge : wp (opCmp .ge (.int i) (.int j) κ) Q = Q (.bl (decide (j ≤ i))) κ := wp_rfl rfl
@[simp] theorem o_isn {d : D} : wp (opCmp .isn d .non κ) Q = Q (.bl (isNonD d)) κ := wp_rfl rfl
@[simp] theorem o_notn {d : D} : wp (opCmp .notn d .non κ) Q = Q (.bl (!isNonD d)) κ := wp_rfl rfl
@[simp] theorem o_abs : wp (opF1 .abs (.int i) κ) Q = Q (.int (if i < 0 then -i else i)) κ := wp_rfl rfl
@[simp] theorem o_int : wp (opF1 .int (.int i) κ) Q = Q (.int i) κ := wp_rfl rfl
@[simp] theorem o_lenL {xs : List D} : wp (opF1 .len (.lst xs) κ) Q = Q (.int xs.length) κ := wp_rfl rfl
@[simp] theorem o_lenT {xs : List D} : wp (opF1 .len (.tup xs) κ) Q = Q (.int xs.length) κ := wp_rfl rfl
theorem o_lenS {z : Str} (h : z.length ≤ 16777216) : wp (opF1 .len (.str z) κ) Q = Q (.int z.length) κ := by
  show wp (if z.length ≤ 16777216 then .ok (.int z.length) κ else .bad) Q = _
  rw [if_pos h]
  first | rfl | exact wp_rfl rfl | exact wp_as rfl | (simp only [wp_ok, wp_exc, wp_bad, Res.bindS_ok, Res.bindS_exc, Res.bindS_bad]; done) | (simp only [wp_ok, wp_exc, wp_bad, Res.bindS_ok, Res.bindS_exc, Res.bindS_bad]; first | rfl | exact wp_rfl rfl | exact wp_as rfl)
theorem o_lenC {c : Nat} {xs : List D} (h : κ[c]? = some (.lst xs)) : wp (opF1 .len (.cell c) κ) Q = Q (.int xs.length) κ := by
  unfold opF1 cellOf
  dsimp only
  rw [h]
  first | rfl | exact wp_rfl rfl | exact wp_as rfl | (simp only [wp_ok, wp_exc, wp_bad, Res.bindS_ok, Res.bindS_exc, Res.bindS_bad]; done) | (simp only [wp_ok, wp_exc, wp_bad, Res.bindS_ok, Res.bindS_exc, Res.bindS_bad]; first | rfl | exact wp_rfl rfl | exact wp_as rfl)
theorem o_subL {xs : List D} {d : D} (h : L2.atI xs i = some d) : wp (opSub (.lst xs) (.int i) κ) Q = Q d κ := by
  show wp (match L2.atI xs i with | some x => .ok x κ | none => .bad) Q = _
  rw [h]
  first | rfl | exact wp_rfl rfl | exact wp_as rfl | (simp only [wp_ok, wp_exc, wp_bad, Res.bindS_ok, Res.bindS_exc, Res.bindS_bad]; done) | (simp only [wp_ok, wp_exc, wp_bad, Res.bindS_ok, Res.bindS_exc, Res.bindS_bad]; first | rfl | exact wp_rfl rfl | exact wp_as rfl)
theorem o_subT {xs : List D} {d : D} (h : L2.atI xs i = some d) : wp (opSub (.tup xs) (.int i) κ) Q = Q d κ := by
  show wp (match L2.atI xs i with | some x => .ok x κ | none => .bad) Q = _
  rw [h]
  first | rfl | exact wp_rfl rfl | exact wp_as rfl | (simp only [wp_ok, wp_exc, wp_bad, Res.bindS_ok, Res.bindS_exc, Res.bindS_bad]; done) | (simp only [wp_ok, wp_exc, wp_bad, Res.bindS_ok, Res.bindS_exc, Res.bindS_bad]; first | rfl | exact wp_rfl rfl | exact wp_as rfl)
theorem o_subC {c : Nat} {xs : List D} {d : D} (h : κ[c]? = some (.lst xs)) (h2 : L2.atI xs i = some d) : wp (opSub (.cell c) (.int i) κ) Q = Q d κ := by
  have hc : cellOf κ (.cell c) = .lst xs := by
    show liveOr κ[c]? = _
    rw [h]
    first | rfl | exact wp_rfl rfl | exact wp_as rfl | (simp only [wp_ok, wp_exc, wp_bad, Res.bindS_ok, Res.bindS_exc, Res.bindS_bad]; done) | (simp only [wp_ok, wp_exc, wp_bad, Res.bindS_ok, Res.bindS_exc, Res.bindS_bad]; first | rfl | exact wp_rfl rfl | exact wp_as rfl)
  unfold opSub ixSub
  rw [hc]
  dsimp only
  rw [h2]
  first | rfl | exact wp_rfl rfl | exact wp_as rfl | (simp only [wp_ok, wp_exc, wp_bad, Res.bindS_ok, Res.bindS_exc, Res.bindS_bad]; done) | (simp only [wp_ok, wp_exc, wp_bad, Res.bindS_ok, Res.bindS_exc, Res.bindS_bad]; first | rfl | exact wp_rfl rfl | exact wp_as rfl)
theorem o_subD {kvs : List (L2.Key × D)} {e d : D} {k : L2.Key} (h : keyD e = some k) (h2 : valD kvs k = some d) : wp (opSub (.dic kvs) e κ) Q = Q d κ := by
  show wp (opKey kvs e κ) Q = _
  unfold opKey
  rw [h]
  dsimp only
  rw [h2]
  first | rfl | exact wp_rfl rfl | exact wp_as rfl | (simp only [wp_ok, wp_exc, wp_bad, Res.bindS_ok, Res.bindS_exc, Res.bindS_bad]; done) | (simp only [wp_ok, wp_exc, wp_bad, Res.bindS_ok, Res.bindS_exc, Res.bindS_bad]; first | rfl | exact wp_rfl rfl | exact wp_as rfl)
theorem o_catL {xs ys : List D} (h : xs.length + ys.length ≤ 16777216) : wp (opBin .add (.lst xs) (.lst ys) κ) Q = Q (.lst (xs ++ ys)) κ := by
  show wp (if xs.length + ys.length ≤ 16777216 then .ok (.lst (xs ++ ys)) κ else .bad) Q = _
  rw [if_pos h]
  first | rfl | exact wp_rfl rfl | exact wp_as rfl | (simp only [wp_ok, wp_exc, wp_bad, Res.bindS_ok, Res.bindS_exc, Res.bindS_bad]; done) | (simp only [wp_ok, wp_exc, wp_bad, Res.bindS_ok, Res.bindS_exc, Res.bindS_bad]; first | rfl | exact wp_rfl rfl | exact wp_as rfl)
theorem o_rep {x : Str} {n : Int} (h : (-1000 ≤ n ∧ n ≤ 1000000) ∧ x.length ≤ 16) : wp (opBin .mul (.str x) (.int n) κ) Q = Q (.str (strRep x n)) κ := by
  show wp (if (-1000 ≤ n ∧ n ≤ 1000000) ∧ x.length ≤ 16 then .ok (.str (strRep x n)) κ else .bad) Q = _
  rw [if_pos h]
  first | rfl | exact wp_rfl rfl | exact wp_as rfl | (simp only [wp_ok, wp_exc, wp_bad, Res.bindS_ok, Res.bindS_exc, Res.bindS_bad]; done) | (simp only [wp_ok, wp_exc, wp_bad, Res.bindS_ok, Res.bindS_exc, Res.bindS_bad]; first | rfl | exact wp_rfl rfl | exact wp_as rfl)
theorem o_setI {c : Nat} {xs : List D} {v : D} {k : Nat} (h : κ[c]? = some (.lst xs)) (h2 : L2.ixN xs.length i = some k) : wp (opSetI (.cell c) (.int i) v κ) QU = QU () (κ.set c (.lst (xs.set k v))) := by
  unfold opSetI
  dsimp only
  rw [h]
  dsimp only
  rw [h2]
  first | rfl | exact wp_rfl rfl | exact wp_as rfl | (simp only [wp_ok, wp_exc, wp_bad, Res.bindS_ok, Res.bindS_exc, Res.bindS_bad]; done) | (simp only [wp_ok, wp_exc, wp_bad, Res.bindS_ok, Res.bindS_exc, Res.bindS_bad]; first | rfl | exact wp_rfl rfl | exact wp_as rfl)
theorem at_nat {β : Type} {xs : List β} {k : Nat} {d : β} (h : xs[k]? = some d) : L2.atI xs (k : Int) = some d := by
  have hk : k < xs.length := (List.getElem?_eq_some_iff.mp h).1
  unfold L2.atI L2.ixN
  rw [if_pos (Int.natCast_nonneg k), if_pos (by omega)]
  show xs[(k : Int).toNat]? = some d
  rw [Int.toNat_natCast]
  exact h
end
/-- a call: the slots, the end, the body written out -/
theorem wp_def {P : Pgm} {n : Nat} {f : Str} {d : Fn} {ds : List D} {κ : Store} {Q : D → Store → Prop} (ρ : Env') (m : Mode) (b : List S) (h : P.fn f = some d) (hl : (d.fill ds).length = d.params) (hρ : (d.fill ds).map some ++ List.replicate (d.slots - d.params) none = ρ) (hm : d.mode = m) (hd : d.body = b)
    (hb : wp (evSs (P.gam n) b ρ κ) fun fl κ' => wp (endD κ.length m fl κ') Q) : wp (run P (n + 1) f ds κ) Q := by
  refine wp_run h hl ?_
  rw [hρ, hm, hd]
  exact hb
@[simp] theorem e_keep {n : Nat} {x : D} {κ : Store} {Q : D → Store → Prop} : wp (endD n .keep (.ret x) κ) Q = Q x κ := wp_rfl rfl
@[simp] theorem e_keepN {n : Nat} {ρ : Env'} {κ : Store} {Q : D → Store → Prop} : wp (endD n .keep (.next ρ) κ) Q = Q .non κ := wp_rfl rfl
theorem e_tree {n : Nat} {x : D} {κ : Store} {Q : D → Store → Prop} (h : κ.length = n) : wp (endD n .tree (.ret x) κ) Q = Q x κ := by
  show wp (if κ.length = n then .ok x κ else _) Q = _
  rw [if_pos h]
  first | rfl | exact wp_rfl rfl | exact wp_as rfl | (simp only [wp_ok, wp_exc, wp_bad, Res.bindS_ok, Res.bindS_exc, Res.bindS_bad]; done) | (simp only [wp_ok, wp_exc, wp_bad, Res.bindS_ok, Res.bindS_exc, Res.bindS_bad]; first | rfl | exact wp_rfl rfl | exact wp_as rfl)
@[simp] theorem e_tree' {n : Nat} {x : D} {κ : Store} {Q : D → Store → Prop} (h : κ.length = n) : wp (endD n .tree (.ret x) κ) Q = Q x κ := e_tree h
theorem ofString_inj {a b : String} : Str.ofString a = Str.ofString b ↔ a = b := by
  constructor
  · intro h
    rw [Str.ofString_eq_toList, Str.ofString_eq_toList] at h
    have h1 : (a.toList.map Char.toNat).toArray = (b.toList.map Char.toNat).toArray := Str.mk.inj h
    have h2 : a.toList.map Char.toNat = b.toList.map Char.toNat := by simpa using h1
    have h3 : a.toList = b.toList := by
      refine List.map_inj_right (fun x y e => ?_) |>.mp h2
      exact Char.ext (UInt32.toNat.inj e)
    exact String.ext_iff.mpr (by simpa using h3)
  · rintro rfl
    first | rfl | exact wp_rfl rfl | exact wp_as rfl | (simp only [wp_ok, wp_exc, wp_bad, Res.bindS_ok, Res.bindS_exc, Res.bindS_bad]; done) | (simp only [wp_ok, wp_exc, wp_bad, Res.bindS_ok, Res.bindS_exc, Res.bindS_bad]; first | rfl | exact wp_rfl rfl | exact wp_as rfl)
theorem ofString_app {a b : String} : Str.ofString a ++ Str.ofString b = Str.ofString (a ++ b) := by
  rw [Str.ofString_eq_toList, Str.ofString_eq_toList, Str.ofString_eq_toList]
  show Str.mk _ = _
  simp
theorem wp_eq {β : Type} {r : Res β} {a : β} {κ : Store} (h : wp r fun x κ' => x = a ∧ κ' = κ) : r = .ok a κ := by
  obtain ⟨x, κ', e, rfl, rfl⟩ := wp_get h
  exact e
@[simp] theorem ty_non_int  {κ : Store} : isTy .int .non κ = some false := rfl
@[simp] theorem ty_non_str  {κ : Store} : isTy .str .non κ = some false := rfl
@[simp] theorem ty_non_bool  {κ : Store} : isTy .bool .non κ = some false := rfl
@[simp] theorem ty_non_list  {κ : Store} : isTy .list .non κ = some false := rfl
@[simp] theorem ty_non_tuple  {κ : Store} : isTy .tuple .non κ = some false := rfl
@[simp] theorem ty_non_dict  {κ : Store} : isTy .dict .non κ = some false := rfl
@[simp] theorem ty_bl_int {b : Bool} {κ : Store} : isTy .int (.bl b) κ = some true := rfl
@[simp] theorem ty_bl_str {b : Bool} {κ : Store} : isTy .str (.bl b) κ = some false := rfl
@[simp] theorem ty_bl_bool {b : Bool} {κ : Store} : isTy .bool (.bl b) κ = some true := rfl
@[simp] theorem ty_bl_list {b : Bool} {κ : Store} : isTy .list (.bl b) κ = some false := rfl
@[simp] theorem ty_bl_tuple {b : Bool} {κ : Store} : isTy .tuple (.bl b) κ = some false := rfl
@[simp] theorem ty_bl_dict {b : Bool} {κ : Store} : isTy .dict (.bl b) κ = some false := rfl
@[simp] theorem ty_int_int {i : Int} {κ : Store} : isTy .int (.int i) κ = some true := rfl
@[simp] theorem ty_int_str {i : Int} {κ : Store} : isTy .str (.int i) κ = some false := rfl
@[simp] theorem ty_int_bool {i : Int} {κ : Store} : isTy .bool (.int i) κ = some false := rfl
@[simp] theorem ty_int_list {i : Int} {κ : Store} : isTy .list (.int i) κ = some false := rfl
@[simp] theorem ty_int_tuple {i : Int} {κ : Store} : isTy .tuple (.int i) κ = some false := rfl
@[simp] theorem ty_int_dict {i : Int} {κ : Store} : isTy .dict (.int i) κ = some false := rfl
@[simp] theorem ty_str_int {x : Str} {κ : Store} : isTy .int (.str x) κ = some false := rfl
@[simp] theorem ty_str_str {x : Str} {κ : Store} : isTy .str (.str x) κ = some true := rfl
@[simp] theorem ty_str_bool {x : Str} {κ : Store} : isTy .bool (.str x) κ = some false := rfl
@[simp] theorem ty_str_list {x : Str} {κ : Store} : isTy .list (.str x) κ = some false := rfl
@[simp] theorem ty_str_tuple {x : Str} {κ : Store} : isTy .tuple (.str x) κ = some false := rfl
@[simp] theorem ty_str_dict {x : Str} {κ : Store} : isTy .dict (.str x) κ = some false := rfl
@[simp] theorem ty_tup_int {xs : List D} {κ : Store} : isTy .int (.tup xs) κ = some false := rfl
@[simp] theorem ty_tup_str {xs : List D} {κ : Store} : isTy .str (.tup xs) κ = some false := rfl
@[simp] theorem ty_tup_bool {xs : List D} {κ : Store} : isTy .bool (.tup xs) κ = some false := rfl
@[simp] theorem ty_tup_list {xs : List D} {κ : Store} : isTy .list (.tup xs) κ = some false := rfl
@[simp] theorem ty_tup_tuple {xs : List D} {κ : Store} : isTy .tuple (.tup xs) κ = some true := rfl
@[simp] theorem ty_tup_dict {xs : List D} {κ : Store} : isTy .dict (.tup xs) κ = some false := rfl
@[simp] theorem ty_lst_int {xs : List D} {κ : Store} : isTy .int (.lst xs) κ = some false := rfl
@[simp] theorem ty_lst_str {xs : List D} {κ : Store} : isTy .str (.lst xs) κ = some false := rfl
@[simp] theorem ty_lst_bool {xs : List D} {κ : Store} : isTy .bool (.lst xs) κ = some false := rfl
@[simp] theorem ty_lst_list {xs : List D} {κ : Store} : isTy .list (.lst xs) κ = some true := rfl
@[simp] theorem ty_lst_tuple {xs : List D} {κ : Store} : isTy .tuple (.lst xs) κ = some false := rfl
@[simp] theorem ty_lst_dict {xs : List D} {κ : Store} : isTy .dict (.lst xs) κ = some false := rfl
@[simp] theorem tr_non {κ : Store} : truth .non κ = some false := rfl
@[simp] theorem tr_bl {b : Bool} {κ : Store} : truth (.bl b) κ = some b := rfl
@[simp] theorem tr_int {i : Int} {κ : Store} : truth (.int i) κ = some (i != 0) := rfl
@[simp] theorem tr_lst {xs : List D} {κ : Store} : truth (.lst xs) κ = some (!xs.isEmpty) := rfl
@[simp] theorem tr_tup {xs : List D} {κ : Store} : truth (.tup xs) κ = some (!xs.isEmpty) := rfl
theorem asStrs_map : ∀ {ys : List Str}, asStrs (ys.map D.str) = some ys
  | [] => rfl
  | y :: ys => by
    show (asStrs (ys.map D.str)).map (y :: ·) = some (y :: ys)
    rw [asStrs_map]
    first | rfl | exact wp_rfl rfl | exact wp_as rfl | (simp only [wp_ok, wp_exc, wp_bad, Res.bindS_ok, Res.bindS_exc, Res.bindS_bad]; done) | (simp only [wp_ok, wp_exc, wp_bad, Res.bindS_ok, Res.bindS_exc, Res.bindS_bad]; first | rfl | exact wp_rfl rfl | exact wp_as rfl)
theorem o_join {a : Str} {ys : List Str} {κ : Store} {Q : D → Store → Prop} (h : (ys.map (·.length)).sum + ys.length * a.length ≤ 16777216) : wp (opJoin (.str a) (.lst (ys.map D.str)) κ) Q = Q (.str (Txt.join a ys)) κ := by
  show wp (match asStrs (ys.map D.str) with
    | some ys => if (ys.map (·.length)).sum + ys.length * a.length ≤ 16777216 then .ok (.str (Txt.join a ys)) κ else .bad
    | none => .bad) Q = _
  rw [asStrs_map]
  dsimp only
  rw [if_pos h]
  first | rfl | exact wp_rfl rfl | exact wp_as rfl | (simp only [wp_ok, wp_exc, wp_bad, Res.bindS_ok, Res.bindS_exc, Res.bindS_bad]; done) | (simp only [wp_ok, wp_exc, wp_bad, Res.bindS_ok, Res.bindS_exc, Res.bindS_bad]; first | rfl | exact wp_rfl rfl | exact wp_as rfl)
theorem at_mem {β : Type} {xs : List β} {r : Int} (h0 : 0 ≤ r) (h1 : r < xs.length) : ∃ d, L2.atI xs r = some d ∧ d ∈ xs := by
  have hk : r.toNat < xs.length := by omega
  refine ⟨xs[r.toNat], ?_, List.getElem_mem hk⟩
  have e : ((r.toNat : Nat) : Int) = r := Int.toNat_of_nonneg h0
  have z := at_nat (xs := xs) (List.getElem?_eq_getElem hk)
  rw [e] at z
  exact z
theorem o_subS {z : Str} {r : Int} {κ : Store} {Q : D → Store → Prop} (hz : z.length ≤ 16777216) (h0 : 0 ≤ r) (h1 : r < z.length) (h : ∀ c, Q (.str ⟨#[c]⟩) κ) : wp (opSub (.str z) (.int r) κ) Q := by
  obtain ⟨d, e, _⟩ := at_mem (xs := z.cps.toList) h0 (by rw [Array.length_toList]; exact h1)
  show wp (if z.length ≤ 16777216 then (match L2.atI z.cps.toList r with | some c => .ok (.str ⟨#[c]⟩) κ | none => .bad) else .bad) Q
  rw [if_pos hz, e]
  exact wp_pure rfl (h d)
/-- what a draw changes -/
def Drawn (κ : Store) (j m : Nat) (κ' : Store) : Prop := DeckAt κ' j m ∧ ∃ d, κ' = κ.set j d
theorem Drawn.trans {κ κ1 κ2 : Store} {j m m2 : Nat} (h : Drawn κ j m κ1) (h2 : Drawn κ1 j m2 κ2) : Drawn κ j m2 κ2 := by
  obtain ⟨_, d, rfl⟩ := h
  obtain ⟨a, d2, rfl⟩ := h2
  exact ⟨a, d2, by rw [List.set_set]⟩
theorem DeckAt.mono {κ : Store} {j m m2 : Nat} (h : DeckAt κ j m) (l : m ≤ m2) : DeckAt κ j m2 := by
  obtain ⟨a, b, i, k, h1, h2, h3, h4, h5, h6⟩ := h
  exact ⟨a, b, i, k, h1, h2, h3, h4, h5, by omega⟩
theorem Drawn.mono {κ κ1 : Store} {j m m2 : Nat} (h : Drawn κ j m κ1) (l : m ≤ m2) : Drawn κ j m2 κ1 := ⟨h.1.mono l, h.2⟩
theorem Drawn.refl {κ : Store} {j m : Nat} (h : DeckAt κ j m) : Drawn κ j m κ := by
  refine ⟨h, ?_⟩
  obtain ⟨a, b, i, k, h1, _⟩ := h
  refine ⟨_, (List.set_getElem_self (List.getElem?_eq_some_iff.mp h1).1).symm⟩
theorem Drawn.len {κ κ1 : Store} {j m : Nat} (h : Drawn κ j m κ1) : κ1.length = κ.length := by
  obtain ⟨_, d, rfl⟩ := h
  exact List.length_set
theorem wp_rng1 {G : Gam} {ρ : Env'} {κ : Store} {e : E} {QI : Itm → Store → Prop} (h : wp (ev G e ρ κ) fun x κ => ∃ n : Int, x = .int n ∧ (-1000000000 < n ∧ n < 1000000000) ∧ QI (.fix (rangeD 0 n.toNat)) κ) : wp (evSrc G (.rng1 e) ρ κ) QI := by
  rw [w_rng1]
  refine wp_mono h fun x κ1 ⟨n, e, h1, h2⟩ => ?_
  subst e
  dsimp only
  rw [if_pos h1]
  exact wp_pure rfl h2
theorem wp_rng2 {G : Gam} {ρ : Env'} {κ : Store} {a b : E} {QI : Itm → Store → Prop} (h : wp (ev G a ρ κ) fun x κ => wp (ev G b ρ κ) fun y κ => ∃ m n : Int, x = .int m ∧ y = .int n ∧ (-1000000000 < m ∧ m < 1000000000) ∧ (-1000000000 < n ∧ n < 1000000000) ∧ QI (.fix (rangeD m (n - m).toNat)) κ) : wp (evSrc G (.rng2 a b) ρ κ) QI := by
  rw [w_rng2]
  refine wp_mono h fun x κ1 h => wp_mono h fun y κ2 ⟨m, n, e1, e2, h1, h2, h3⟩ => ?_
  subst e1 e2
  dsimp only
  rw [if_pos ⟨h1, h2⟩]
  exact wp_pure rfl h3
theorem wp_vlst {G : Gam} {ρ : Env'} {κ : Store} {e : E} {QI : Itm → Store → Prop} (h : wp (ev G e ρ κ) fun x κ => ∃ xs, (x = .lst xs ∨ x = .tup xs) ∧ QI (.fix xs) κ) : wp (evSrc G (.val e) ρ κ) QI := by
  rw [w_val]
  refine wp_mono h fun x κ1 ⟨xs, e, h1⟩ => ?_
  rcases e with rfl | rfl <;> exact wp_pure rfl h1
@[simp] theorem items_str {z : Str} {κ : Store} : itemsOf (.str z) κ = some (.fix (signsD z)) := rfl
@[simp] theorem items_lst {xs : List D} {κ : Store} : itemsOf (.lst xs) κ = some (.fix xs) := rfl
@[simp] theorem items_tup {xs : List D} {κ : Store} : itemsOf (.tup xs) κ = some (.fix xs) := rfl
@[simp] theorem len_fix {xs : List D} : (Itm.fix xs).len = xs.length := rfl
theorem o_dic {ds : List D} {kvs : List (L2.Key × D)} {κ : Store} {Q : D → Store → Prop} (h : pairUp ds = some kvs) (h1 : kvs.length ≤ 15) (h2 : (kvs.map (·.1)).Nodup) : wp (opDic ds κ) Q = Q (.dic kvs) κ := by
  unfold opDic
  rw [h]
  dsimp only
  rw [if_pos ⟨h1, h2⟩]
  first | rfl | exact wp_rfl rfl | exact wp_as rfl | (simp only [wp_ok, wp_exc, wp_bad, Res.bindS_ok, Res.bindS_exc, Res.bindS_bad]; done) | (simp only [wp_ok, wp_exc, wp_bad, Res.bindS_ok, Res.bindS_exc, Res.bindS_bad]; first | rfl | exact wp_rfl rfl | exact wp_as rfl)
@[simp] theorem ist_non {G : Gam}  {t : Ty} {κ : Store} : opIsT G t .non κ = isTy t .non κ := rfl
@[simp] theorem ist_bl {G : Gam} {b : Bool} {t : Ty} {κ : Store} : opIsT G t (.bl b) κ = isTy t (.bl b) κ := rfl
@[simp] theorem ist_int {G : Gam} {i : Int} {t : Ty} {κ : Store} : opIsT G t (.int i) κ = isTy t (.int i) κ := rfl
@[simp] theorem ist_str {G : Gam} {x : Str} {t : Ty} {κ : Store} : opIsT G t (.str x) κ = isTy t (.str x) κ := rfl
@[simp] theorem ist_tup {G : Gam} {xs : List D} {t : Ty} {κ : Store} : opIsT G t (.tup xs) κ = isTy t (.tup xs) κ := rfl
@[simp] theorem ist_lst {G : Gam} {xs : List D} {t : Ty} {κ : Store} : opIsT G t (.lst xs) κ = isTy t (.lst xs) κ := rfl
@[simp] theorem ist_dic {G : Gam} {xs : List (L2.Key × D)} {t : Ty} {κ : Store} : opIsT G t (.dic xs) κ = isTy t (.dic xs) κ := rfl
@[simp] theorem ist_ins {G : Gam} {c : Str} {fs : List (Str × D)} {t : Ty} {κ : Store} : opIsT G t (.ins c fs) κ = G.kI c t := rfl
end I3

set_option Elab.async false
set_option linter.all false
set_option autoImplicit false
set_option maxRecDepth 100000
set_option maxHeartbeats 4000000
/-! I3t: more rules to compute by: instances, pure comprehensions, what is closed. -/
namespace I3
open PySem PyProof.Rows
@[simp] theorem gam_kC {P : Pgm} {n : Nat} : (P.gam n).kC = P.kC := rfl
@[simp] theorem gam_kI {P : Pgm} {n : Nat} : (P.gam n).kI = P.kI := rfl
@[simp] theorem gam_kB {P : Pgm} {n : Nat} : (P.gam n).kB = P.kB := rfl
@[simp] theorem gam_kO {P : Pgm} {n : Nat} : (P.gam n).kO = P.kO := rfl
section
variable {G : Gam} {ρ : Env'} {κ : Store} {Q : D → Store → Prop} {QT : Bool → Store → Prop} {QL : List D → Store → Prop} {QF : Flow → Store → Prop} {QI : Itm → Store → Prop} {QU : Unit → Store → Prop}
theorem s_setA' {o e : E} {f : Str} (h : wp (ev G e ρ κ) fun v κ => wp (ev G o ρ κ) fun x κ => wp (opSetA (fun c f => (G.att c f).isF) x f v κ) fun _ κ => QF (.next ρ) κ) : wp (evS G (.setA o f e) ρ κ) QF :=
  wp_bindS (wp_mono h fun v κ q => wp_bindS (wp_mono q fun x κ q => wp_bindO q))
theorem ss_setA' {o e : E} {f : Str} {ss : List S} (h : wp (ev G e ρ κ) fun v κ => wp (ev G o ρ κ) fun x κ => wp (opSetA (fun c f => (G.att c f).isF) x f v κ) fun _ κ => wp (evSs G ss ρ κ) QF) : wp (evSs G (.setA o f e :: ss) ρ κ) QF := ss_cons' (s_setA' h)
theorem o_setA {fld : Str → Str → Bool} {c : Nat} {k f : Str} {fs : List (Str × D)} {v : D} (h : κ[c]? = some (.ins k fs)) (hf : fld k f = true) (hl : fs.length < 1000) : wp (opSetA fld (.cell c) f v κ) QU = QU () (κ.set c (.ins k (putD f v fs))) := by
  unfold opSetA
  dsimp only
  rw [h]
  dsimp only
  rw [if_pos ⟨hf, hl⟩]
  first | rfl | exact wp_rfl rfl | exact wp_as rfl | (simp only [wp_ok, wp_exc, wp_bad, Res.bindS_ok, Res.bindS_exc, Res.bindS_bad]; done) | (simp only [wp_ok, wp_exc, wp_bad, Res.bindS_ok, Res.bindS_exc, Res.bindS_bad]; first | rfl | exact wp_rfl rfl | exact wp_as rfl)
/-- .. of the newest cell -/
theorem o_setN {fld : Str → Str → Bool} {k f : Str} {fs : List (Str × D)} {v : D} (hf : fld k f = true) (hl : fs.length < 1000) : wp (opSetA fld (.cell κ.length) f v (κ ++ [.ins k fs])) QU = QU () (κ ++ [.ins k (putD f v fs)]) := by
  rw [o_setA (k := k) (fs := fs) (by simp) hf hl]
  simp
@[simp] theorem w_make {c : Str} {es : List E} {md : Mode} : wp (ev G (.make c es md) ρ κ) Q = if G.isC c = true then wp (evL G es ρ κ) (fun ds κ => wp (G.low (c ++ ".__init__") (.cell κ.length :: ds) (κ ++ [.ins c []])) fun r κ' => wp (endMake κ.length md r κ') Q) else False := by
  by_cases h : G.isC c = true
  · simp only [ev, if_pos h, wp_bind] <;> first | rfl | exact wp_rfl rfl | exact wp_as rfl | (simp only [wp_ok, wp_exc, wp_bad, Res.bindS_ok, Res.bindS_exc, Res.bindS_bad]; done) | (simp only [wp_ok, wp_exc, wp_bad, Res.bindS_ok, Res.bindS_exc, Res.bindS_bad]; first | rfl | exact wp_rfl rfl | exact wp_as rfl)
  · simp only [ev, if_neg h]
    first | rfl | exact wp_rfl rfl | exact wp_as rfl | (simp only [wp_ok, wp_exc, wp_bad, Res.bindS_ok, Res.bindS_exc, Res.bindS_bad]; done) | (simp only [wp_ok, wp_exc, wp_bad, Res.bindS_ok, Res.bindS_exc, Res.bindS_bad]; first | rfl | exact wp_rfl rfl | exact wp_as rfl)
@[simp] theorem w_isown {a : E} {t : Str} : wp (ev G (.isown a t) ρ κ) Q = if G.kC t = true then wp (ev G a ρ κ) (fun x κ => wp (match opIsC G t x κ with | some b => .ok (.bl b) κ | none => .bad) Q) else False := by
  by_cases h : G.kC t = true
  · simp only [ev, if_pos h, wp_bind] <;> first | rfl | exact wp_rfl rfl | exact wp_as rfl | (simp only [wp_ok, wp_exc, wp_bad, Res.bindS_ok, Res.bindS_exc, Res.bindS_bad]; done) | (simp only [wp_ok, wp_exc, wp_bad, Res.bindS_ok, Res.bindS_exc, Res.bindS_bad]; first | rfl | exact wp_rfl rfl | exact wp_as rfl)
  · simp only [ev, if_neg h]
    first | rfl | exact wp_rfl rfl | exact wp_as rfl | (simp only [wp_ok, wp_exc, wp_bad, Res.bindS_ok, Res.bindS_exc, Res.bindS_bad]; done) | (simp only [wp_ok, wp_exc, wp_bad, Res.bindS_ok, Res.bindS_exc, Res.bindS_bad]; first | rfl | exact wp_rfl rfl | exact wp_as rfl)
theorem e_make {c : Str} {fs : List (Str × D)} (h1 : closedF κ.length fs = true) (h2 : closedL κ.length κ = true) : wp (endMake κ.length .tree .non (κ ++ [.ins c fs])) Q = Q (.ins c fs) κ := by
  have e : endMake κ.length .tree .non (κ ++ [.ins c fs]) = .ok (.ins c fs) κ := by
    show finish κ.length .tree (.cell κ.length) (κ ++ [.ins c fs]) = _
    unfold finish
    dsimp only
    rw [if_neg (by simp)]
    have e1 : (κ ++ [D.ins c fs]).drop κ.length = [.ins c fs] := by simp
    have e2 : (κ ++ [D.ins c fs]).take κ.length = κ := by simp
    rw [e1, e2]
    have e3 : resolve κ.length [.ins c fs] (.cell κ.length) = .ins c fs := by
      show (if κ.length = κ.length then D.ins c fs else _) = _
      rw [if_pos rfl]
    rw [e3]
    have e4 : closed κ.length (.ins c fs) = true := by
      unfold closed
      exact h1
    rw [e4, h2]
    first | rfl | exact wp_rfl rfl | exact wp_as rfl | (simp only [wp_ok, wp_exc, wp_bad, Res.bindS_ok, Res.bindS_exc, Res.bindS_bad]; done) | (simp only [wp_ok, wp_exc, wp_bad, Res.bindS_ok, Res.bindS_exc, Res.bindS_bad]; first | rfl | exact wp_rfl rfl | exact wp_as rfl)
  rw [e]
  first | rfl | exact wp_rfl rfl | exact wp_as rfl | (simp only [wp_ok, wp_exc, wp_bad, Res.bindS_ok, Res.bindS_exc, Res.bindS_bad]; done) | (simp only [wp_ok, wp_exc, wp_bad, Res.bindS_ok, Res.bindS_exc, Res.bindS_bad]; first | rfl | exact wp_rfl rfl | exact wp_as rfl)
theorem o_fld {c f : Str} {fs : List (Str × D)} {d : D} (h : G.att c f = .fld) (hl : fs.lookup f = some d) : wp (opAttr G (.ins c fs) f κ) Q = Q d κ := by
  show wp (match G.att c f with
    | .fld => (match fs.lookup f with | some d => .ok d κ | none => .bad)
    | .con d => (match fs.lookup f with | some _ => .bad | none => .ok d κ)
    | .prop => (G.low (c ++ "." ++ f) [.ins c fs] κ).nox
    | .no => .bad) Q = _
  rw [h]
  dsimp only
  rw [hl]
  first | rfl | exact wp_rfl rfl | exact wp_as rfl | (simp only [wp_ok, wp_exc, wp_bad, Res.bindS_ok, Res.bindS_exc, Res.bindS_bad]; done) | (simp only [wp_ok, wp_exc, wp_bad, Res.bindS_ok, Res.bindS_exc, Res.bindS_bad]; first | rfl | exact wp_rfl rfl | exact wp_as rfl)
theorem o_prp {c f : Str} {fs : List (Str × D)} (h : G.att c f = .prop) : wp (opAttr G (.ins c fs) f κ) Q = wp (G.low (c ++ "." ++ f) [.ins c fs] κ) Q := by
  show wp (match G.att c f with
    | .fld => (match fs.lookup f with | some d => .ok d κ | none => .bad)
    | .con d => (match fs.lookup f with | some _ => .bad | none => .ok d κ)
    | .prop => (G.low (c ++ "." ++ f) [.ins c fs] κ).nox
    | .no => .bad) Q = _
  rw [h]
  exact wp_nox
@[simp] theorem o_inn {d e : D} : wp (opCmp .inn d e κ) Q = wp (match inD d e κ with | some b => .ok (.bl b) κ | none => .bad) Q := wp_as rfl
@[simp] theorem o_ntn {d e : D} : wp (opCmp .ntn d e κ) Q = wp (match inD d e κ with | some b => .ok (.bl (!b)) κ | none => .bad) Q := wp_as rfl
@[simp] theorem in_tup {d : D} {xs : List D} : inD d (.tup xs) κ = inList d xs := rfl
@[simp] theorem in_lst {d : D} {xs : List D} : inD d (.lst xs) κ = inList d xs := rfl
@[simp] theorem in_sgn {c : Nat} {z : Str} : inD (.str ⟨#[c]⟩) (.str z) κ = some (decide (c ∈ z.cps.toList)) := rfl
theorem o_all {xs : List D} {bs : List Bool} (h : asBools xs = some bs) : wp (opF1 .all (.lst xs) κ) Q = Q (.bl (bs.all id)) κ := by
  show wp (match asBools xs with | some bs => .ok (.bl (bs.all id)) κ | none => .bad) Q = _
  rw [h]
  first | rfl | exact wp_rfl rfl | exact wp_as rfl | (simp only [wp_ok, wp_exc, wp_bad, Res.bindS_ok, Res.bindS_exc, Res.bindS_bad]; done) | (simp only [wp_ok, wp_exc, wp_bad, Res.bindS_ok, Res.bindS_exc, Res.bindS_bad]; first | rfl | exact wp_rfl rfl | exact wp_as rfl)
theorem o_any {xs : List D} {bs : List Bool} (h : asBools xs = some bs) : wp (opF1 .any (.lst xs) κ) Q = Q (.bl (bs.any id)) κ := by
  show wp (match asBools xs with | some bs => .ok (.bl (bs.any id)) κ | none => .bad) Q = _
  rw [h]
  first | rfl | exact wp_rfl rfl | exact wp_as rfl | (simp only [wp_ok, wp_exc, wp_bad, Res.bindS_ok, Res.bindS_exc, Res.bindS_bad]; done) | (simp only [wp_ok, wp_exc, wp_bad, Res.bindS_ok, Res.bindS_exc, Res.bindS_bad]; first | rfl | exact wp_rfl rfl | exact wp_as rfl)
end
theorem asBools_map {β : Type} {g : β → Bool} : ∀ {xs : List β}, asBools (xs.map fun d => .bl (g d)) = some (xs.map g)
  | [] => rfl
  | x :: xs => by
    show (asBools (xs.map fun d => .bl (g d))).map (g x :: ·) = _
    rw [asBools_map]
    first | rfl | exact wp_rfl rfl | exact wp_as rfl | (simp only [wp_ok, wp_exc, wp_bad, Res.bindS_ok, Res.bindS_exc, Res.bindS_bad]; done) | (simp only [wp_ok, wp_exc, wp_bad, Res.bindS_ok, Res.bindS_exc, Res.bindS_bad]; first | rfl | exact wp_rfl rfl | exact wp_as rfl)
/-- a comprehension that changes nothing -/
theorem wp_compM {xs : List D} {step : D → Store → Res (Option D)} {κ : Store} {Q : List D → Store → Prop} (f : D → D) (h : ∀ d ∈ xs, wp (step d κ) fun r κ' => r = some (f d) ∧ κ' = κ) (hq : Q (xs.map f) κ) : wp (compL (.fix xs) step xs.length [] κ) Q := by
  refine wp_comp (fun i acc κ' => κ' = κ ∧ acc = (xs.take i).map f) ⟨rfl, by simp⟩ (fun i d acc κ1 hi ⟨e1, e2⟩ => ?_) fun acc κ1 ⟨e1, e2⟩ => ?_
  · subst e1
    refine wp_mono (h d (List.mem_of_getElem? hi)) fun r κ2 ⟨e3, e4⟩ => ?_
    subst e3 e4
    refine ⟨rfl, ?_⟩
    rw [e2, List.take_succ, hi]
    simp
  · subst e1
    rw [e2, List.take_length]
    exact hq
theorem wp_compF {xs : List D} {step : D → Store → Res (Option D)} {κ : Store} {Q : List D → Store → Prop} (f : D → Option D) (h : ∀ d ∈ xs, wp (step d κ) fun r κ' => r = f d ∧ κ' = κ) (hq : Q (xs.filterMap f) κ) : wp (compL (.fix xs) step xs.length [] κ) Q := by
  refine wp_comp (fun i acc κ' => κ' = κ ∧ acc = (xs.take i).filterMap f) ⟨rfl, by simp⟩ (fun i d acc κ1 hi ⟨e1, e2⟩ => ?_) fun acc κ1 ⟨e1, e2⟩ => ?_
  · subst e1
    refine wp_mono (h d (List.mem_of_getElem? hi)) fun r κ2 ⟨e3, e4⟩ => ?_
    subst e3 e4
    cases e : f d with
    | some x =>
      refine ⟨rfl, ?_⟩
      rw [e2, List.take_succ, hi]
      simp [e]
    | none =>
      refine ⟨rfl, ?_⟩
      rw [e2, List.take_succ, hi]
      simp [e]
  · subst e1
    rw [e2, List.take_length]
    exact hq
theorem signs_mem {z : Str} {d : D} (h : d ∈ signsD z) : ∃ c, c ∈ z.cps.toList ∧ d = .str ⟨#[c]⟩ := by
  unfold signsD at h
  obtain ⟨c, h1, h2⟩ := List.mem_map.mp h
  exact ⟨c, h1, h2.symm⟩
theorem ofString_beq {a b : String} : (Str.ofString a == Str.ofString b) = (a == b) := by
  by_cases h : a = b
  · subst h
    simp
  · have h2 : Str.ofString a ≠ Str.ofString b := fun e => h (ofString_inj.mp e)
    rw [beq_false_of_ne h, beq_false_of_ne h2]
/-- a store of decks -/
def FlatS (κ : Store) : Prop := ∀ n, closedL n κ = true
theorem closedL_mem {n : Nat} : ∀ {κ : List D}, (closedL n κ = true ↔ ∀ d ∈ κ, closed n d = true)
  | [] => by simp [closedL]
  | d :: κ => by simp [closedL, closedL_mem (κ := κ)]
theorem FlatS.nil : FlatS [] := fun _ => rfl
theorem deck_closed {a b i k : Int} {n : Nat} : closed n (deckD a b i k) = true := by simp [deckD, closed, closedL]
theorem FlatS.snoc {κ : Store} {d : D} (h : FlatS κ) (hd : ∀ n, closed n d = true) : FlatS (κ ++ [d]) := fun n => closedL_mem.mpr fun x hx => by
  rcases List.mem_append.mp hx with hx | hx
  · exact closedL_mem.mp (h n) x hx
  · simp at hx
    rw [hx]
    exact hd n
theorem FlatS.deck {κ : Store} {d : D} {m : Nat} (h : FlatS κ) (hd : DeckAt (κ ++ [d]) κ.length m) : FlatS (κ ++ [d]) := by
  obtain ⟨a, b, i, k, h1, _⟩ := hd
  have e : d = deckD a b i k := by simpa using h1
  exact h.snoc fun n => by rw [e]; exact deck_closed
theorem FlatS.drawn {κ κ' : Store} {j m : Nat} (h : FlatS κ) (hd : Drawn κ j m κ') : FlatS κ' := fun n => by
  obtain ⟨⟨a, b, i, k, h1, _⟩, d, rfl⟩ := hd
  refine closedL_mem.mpr fun x hx => ?_
  rcases List.mem_or_eq_of_mem_set hx with hx | hx
  · exact closedL_mem.mp (h n) x hx
  · subst hx
    by_cases hj : j < κ.length
    · rw [List.getElem?_set_self hj] at h1
      cases h1
      exact deck_closed
    · rw [List.getElem?_eq_none (by simp; omega)] at h1
      cases h1
theorem strRep_len {x : Str} {n : Int} (h : n ≤ 1000000) (hx : x.length ≤ 16) : (strRep x n).length ≤ 16000000 := by
  unfold strRep
  split
  · exact Nat.zero_le _
  · split
    · omega
    · show (((List.replicate n.toNat x.cps).foldl (· ++ ·) #[]).size) ≤ _
      have e := fold_size x.cps n.toNat #[]
      have e2 : ((List.replicate n.toNat x.cps).foldl (fun x1 x2 => x1 ++ x2) #[]).size = 0 + n.toNat * x.cps.size := e
      rw [e2]
      have h1 : n.toNat ≤ 1000000 := by omega
      have h2 : x.cps.size ≤ 16 := hx
      have := Nat.mul_le_mul h1 h2
      omega
end I3
namespace I3
open PySem PyProof.Rows
/-! ### raise, try -/
@[simp] theorem gam_xc {P : Pgm} {n : Nat} : (P.gam (n + 2)).xc = P.xc := rfl
@[simp] theorem gam_kX {P : Pgm} {n : Nat} : (P.gam n).kX = P.kX := rfl
@[simp] theorem gam_kY {P : Pgm} {n : Nat} : (P.gam n).kY = P.kY := rfl
@[simp] theorem gam_xa {P : Pgm} {n : Nat} : (P.gam n).xa = P.xa := rfl
@[simp] theorem gam_kN {P : Pgm} {n : Nat} : (P.gam n).kN = P.kN := rfl
section
variable {G : Gam} {ρ : Env'} {κ : Store} {Q : D → Store → Prop} {QF : Flow → Store → Prop}
@[simp] theorem w_xfld {i : Nat} {f : Str} : wp (ev G (.xfld i f) ρ κ) Q = wp (match ρ[i]? with
    | some (some (.exn a dx c fs)) => if G.exn = some (a, dx, c) ∧ G.xa c f = true then (match fs.lookup f with | some d => .ok d κ | none => .bad) else .bad
    | _ => .bad) Q := by
  simp only [ev] <;> first | rfl | exact wp_rfl rfl | exact wp_as rfl | (simp only [wp_ok, wp_exc, wp_bad, Res.bindS_ok, Res.bindS_exc, Res.bindS_bad]; done) | (simp only [wp_ok, wp_exc, wp_bad, Res.bindS_ok, Res.bindS_exc, Res.bindS_bad]; first | rfl | exact wp_rfl rfl | exact wp_as rfl)
@[simp] theorem w_xis {i : Nat} {y : Str} : wp (ev G (.xis i y) ρ κ) Q = wp (match ρ[i]? with
    | some (some (.exn a dx c _)) => if G.exn = some (a, dx, c) then (match G.kY c y with | some b => .ok (.bl b) κ | none => .bad) else .bad
    | _ => .bad) Q := by
  simp only [ev] <;> first | rfl | exact wp_rfl rfl | exact wp_as rfl | (simp only [wp_ok, wp_exc, wp_bad, Res.bindS_ok, Res.bindS_exc, Res.bindS_bad]; done) | (simp only [wp_ok, wp_exc, wp_bad, Res.bindS_ok, Res.bindS_exc, Res.bindS_bad]; first | rfl | exact wp_rfl rfl | exact wp_as rfl)
@[simp] theorem w_fmt {a : E} : wp (ev G (.fmt a) ρ κ) Q = wp (ev G a ρ κ) fun x κ => wp (opFmt x κ) Q := by
  simp only [ev, wp_bind] <;> first | rfl | exact wp_rfl rfl | exact wp_as rfl | (simp only [wp_ok, wp_exc, wp_bad, Res.bindS_ok, Res.bindS_exc, Res.bindS_bad]; done) | (simp only [wp_ok, wp_exc, wp_bad, Res.bindS_ok, Res.bindS_exc, Res.bindS_bad]; first | rfl | exact wp_rfl rfl | exact wp_as rfl)
@[simp] theorem w_joined {es : List E} : wp (ev G (.joined es) ρ κ) Q = wp (evJ G es Str.empty ρ κ) Q := by
  simp only [ev] <;> first | rfl | exact wp_rfl rfl | exact wp_as rfl | (simp only [wp_ok, wp_exc, wp_bad, Res.bindS_ok, Res.bindS_exc, Res.bindS_bad]; done) | (simp only [wp_ok, wp_exc, wp_bad, Res.bindS_ok, Res.bindS_exc, Res.bindS_bad]; first | rfl | exact wp_rfl rfl | exact wp_as rfl)
@[simp] theorem w_rev {a : E} : wp (ev G (.rev a) ρ κ) Q = wp (ev G a ρ κ) fun x κ => wp (opRev x κ) Q := by
  simp only [ev, wp_bind] <;> first | rfl | exact wp_rfl rfl | exact wp_as rfl | (simp only [wp_ok, wp_exc, wp_bad, Res.bindS_ok, Res.bindS_exc, Res.bindS_bad]; done) | (simp only [wp_ok, wp_exc, wp_bad, Res.bindS_ok, Res.bindS_exc, Res.bindS_bad]; first | rfl | exact wp_rfl rfl | exact wp_as rfl)
@[simp] theorem j_nil {acc : Str} : wp (evJ G [] acc ρ κ) Q = Q (.str acc) κ := wp_rfl rfl
@[simp] theorem j_cons {e : E} {es : List E} {acc : Str} : wp (evJ G (e :: es) acc ρ κ) Q = wp (ev G e ρ κ) fun x κ => wp (match x with
    | .str y => if (acc ++ y).length ≤ 16777216 then evJ G es (acc ++ y) ρ κ else .bad
    | _ => .bad) Q := by
  simp only [evJ, wp_bind] <;> first | rfl | exact wp_rfl rfl | exact wp_as rfl | (simp only [wp_ok, wp_exc, wp_bad, Res.bindS_ok, Res.bindS_exc, Res.bindS_bad]; done) | (simp only [wp_ok, wp_exc, wp_bad, Res.bindS_ok, Res.bindS_exc, Res.bindS_bad]; first | rfl | exact wp_rfl rfl | exact wp_as rfl)
theorem o_revS {z : Str} (h : z.length ≤ 16777216) : wp (opRev (.str z) κ) Q = Q (.str (revS z)) κ := by
  show wp (if z.length ≤ 16777216 then .ok (.str (revS z)) κ else .bad) Q = _
  rw [if_pos h]
  first | rfl | exact wp_rfl rfl | exact wp_as rfl | (simp only [wp_ok, wp_exc, wp_bad, Res.bindS_ok, Res.bindS_exc, Res.bindS_bad]; done) | (simp only [wp_ok, wp_exc, wp_bad, Res.bindS_ok, Res.bindS_exc, Res.bindS_bad]; first | rfl | exact wp_rfl rfl | exact wp_as rfl)
theorem hand_eq {r : Nat → Nat → Res Flow} {x : Res Flow} (h : ∀ a dx, r a dx = x) : hand r = x := by
  unfold hand
  rw [if_pos (fun a dx => (h a dx).trans (h 0 0).symm)]
  exact h 0 0
theorem ss_raise' {c : Str} {es : List E} {ss : List S} {xi : XI} (hx : G.xc c = some xi) (h : wp (evL G es ρ κ) fun ds κ => xi.ok ds = true ∧ QF (.exc c (xi.fs.zip ds).reverse ρ) κ) : wp (evSs G (.raise c es :: ss) ρ κ) QF := by
  refine ss_cons' ?_
  unfold evS
  rw [hx]
  refine wp_bindS (wp_mono h fun ds κ q => ?_)
  rw [if_pos q.1]
  exact wp_pure rfl q.2
theorem ss_exprX' {e : E} {ss : List S} {c : Str} {fs : List (Str × D)} {κ1 : Store} (h : ev G e ρ κ = .exc c fs κ1) (hq : QF (.exc c fs ρ) κ1) : wp (evSs G (.expr e :: ss) ρ κ) QF := by
  refine ss_cons' ?_
  unfold evS
  rw [h]
  exact wp_pure rfl hq
theorem ss_try' {b hh ss : List S} {c : Str} {n : Option Nat} (hn : G.kN c = true) (h : wp (evSs G b ρ κ) fun f κ1 => (match f with
    | .exc c' fs ρ1 => G.kX c' c = some true ∧ ∃ f2 κ2, (∀ a dx, wp (evSs { G with exn := some (a, dx, c') } hh (startH n (.exn a dx c' fs) ρ1) κ1) fun f κ => endH n f κ = .ok f2 κ2) ∧ (match f2 with
      | .next ρ' => wp (evSs G ss ρ' κ2) QF
      | f => QF f κ2)
    | .next ρ' => wp (evSs G ss ρ' κ1) QF
    | f => QF f κ1)) : wp (evSs G (.try_ b c n hh :: ss) ρ κ) QF := by
  refine ss_cons' ?_
  obtain ⟨f, κ1, e, q⟩ := wp_get h
  unfold evS
  rw [if_pos hn, e, Res.bind_ok]
  cases f with
  | next ρ' => exact wp_pure rfl q
  | ret d => exact wp_pure rfl q
  | brk ρ' => exact wp_pure rfl q
  | cont ρ' => exact wp_pure rfl q
  | exc c' fs ρ1 =>
    obtain ⟨hk, f2, κ2, hs, q⟩ := q
    dsimp only
    rw [hk]
    dsimp only
    have hs2 : ∀ a dx, (evSs { G with exn := some (a, dx, c') } hh (startH n (.exn a dx c' fs) ρ1) κ1).bind (endH n) = .ok f2 κ2 := fun a dx => by
      obtain ⟨f3, κ3, e3, q3⟩ := wp_get (hs a dx)
      rw [e3, Res.bind_ok]
      exact q3
    rw [hand_eq hs2]
    cases f2 <;> exact wp_pure rfl q
theorem ev_makeX {c c' : Str} {es : List E} {md : Mode} {ds : List D} {κ1 κ2 : Store} {fs : List (Str × D)} (hC : G.isC c = true) (hL : evL G es ρ κ = .ok ds κ1) (hl : G.low (c ++ ".__init__") (.cell κ1.length :: ds) (κ1 ++ [.ins c []]) = .exc c' fs κ2) :
    ev G (.make c es md) ρ κ = .exc c' fs κ2 := by
  unfold ev
  rw [if_pos hC, hL, Res.bind_ok, hl, Res.bind_exc]
end
/-- a def's end, whatever it is -/
theorem run_end {P : Pgm} {n : Nat} {f : Str} {d : Fn} {ds : List D} {κ : Store} {r : Res D} (ρ : Env') (m : Mode) (b : List S) (h : P.fn f = some d) (hl : (d.fill ds).length = d.params) (hρ : (d.fill ds).map some ++ List.replicate (d.slots - d.params) none = ρ) (hm : d.mode = m) (hd : d.body = b)
    (hb : wp (evSs (P.gam n) b ρ κ) fun fl κ' => endD κ.length m fl κ' = r) : run P (n + 1) f ds κ = r := by
  subst hρ hm hd
  rw [run_eq, run_succ h, if_pos hl]
  obtain ⟨fl, κ', e, q⟩ := wp_get hb
  rw [e]
  exact q
theorem e_exc {n : Nat} {m : Mode} {c : Str} {fs : List (Str × D)} {ρ : Env'} {κ : Store} (h : κ.length = n) : endD n m (.exc c fs ρ) κ = .exc c fs κ := by
  show (if κ.length = n then Res.exc c fs κ else _) = _
  rw [if_pos h]
/-! ### texts -/
theorem o_subSm {z : Str} {r : Int} {κ : Store} {Q : D → Store → Prop} (hz : z.length ≤ 16777216) (h0 : 0 ≤ r) (h1 : r < z.length) (h : ∀ c ∈ z.cps.toList, Q (.str ⟨#[c]⟩) κ) : wp (opSub (.str z) (.int r) κ) Q := by
  obtain ⟨d, e, hm⟩ := at_mem (xs := z.cps.toList) h0 (by rw [Array.length_toList]; exact h1)
  show wp (if z.length ≤ 16777216 then (match L2.atI z.cps.toList r with | some c => .ok (.str ⟨#[c]⟩) κ | none => .bad) else .bad) Q
  rw [if_pos hz, e]
  exact wp_pure rfl (h d hm)
@[simp] theorem gam_lo2 {P : Pgm} {n : Nat} : (P.gam (n + 2)).lo2 = run P n := by rw [run_eq]; rfl
@[simp] theorem gam_kE {P : Pgm} {n : Nat} : (P.gam n).kE = P.kE := rfl
section
variable {G : Gam} {ρ : Env'} {κ : Store} {Q : D → Store → Prop} {QT : Bool → Store → Prop}
@[simp] theorem w_eqo {n : Bool} {a b : E} : wp (ev G (.eqo n a b) ρ κ) Q = wp (ev G a ρ κ) fun x κ => wp (ev G b ρ κ) fun y κ => wp (opEqo G n x y κ) Q := by
  simp only [ev, wp_bind] <;> first | rfl | exact wp_rfl rfl | exact wp_as rfl | (simp only [wp_ok, wp_exc, wp_bad, Res.bindS_ok, Res.bindS_exc, Res.bindS_bad]; done) | (simp only [wp_ok, wp_exc, wp_bad, Res.bindS_ok, Res.bindS_exc, Res.bindS_bad]; first | rfl | exact wp_rfl rfl | exact wp_as rfl)
theorem eqo_truth {n : Bool} {x y : D} : wp (opEqo G n x y κ) (fun x κ => wp (match truth x κ with | some b => .ok b κ | none => .bad) QT) = wp (opEqo G n x y κ) fun z κ => wp (match z with | .bl b => .ok b κ | _ => .bad) QT := by
  cases h : opEqo G n x y κ with
  | ok z κ' =>
    obtain ⟨b, rfl⟩ := opEqo_bl h
    first | rfl | exact wp_rfl rfl | exact wp_as rfl | (simp only [wp_ok, wp_exc, wp_bad, Res.bindS_ok, Res.bindS_exc, Res.bindS_bad]; done) | (simp only [wp_ok, wp_exc, wp_bad, Res.bindS_ok, Res.bindS_exc, Res.bindS_bad]; first | rfl | exact wp_rfl rfl | exact wp_as rfl)
  | exc c fs κ' => first | rfl | exact wp_rfl rfl | exact wp_as rfl | (simp only [wp_ok, wp_exc, wp_bad, Res.bindS_ok, Res.bindS_exc, Res.bindS_bad]; done) | (simp only [wp_ok, wp_exc, wp_bad, Res.bindS_ok, Res.bindS_exc, Res.bindS_bad]; first | rfl | exact wp_rfl rfl | exact wp_as rfl)
  | bad => first | rfl | exact wp_rfl rfl | exact wp_as rfl | (simp only [wp_ok, wp_exc, wp_bad, Res.bindS_ok, Res.bindS_exc, Res.bindS_bad]; done) | (simp only [wp_ok, wp_exc, wp_bad, Res.bindS_ok, Res.bindS_exc, Res.bindS_bad]; first | rfl | exact wp_rfl rfl | exact wp_as rfl)
@[simp] theorem t_eqo {n : Bool} {a b : E} : wp (evT G (.eqo n a b) ρ κ) QT = wp (ev G a ρ κ) fun x κ => wp (ev G b ρ κ) fun y κ => wp (opEqo G n x y κ) fun z κ => wp (match z with | .bl b => .ok b κ | _ => .bad) QT := by
  simp only [evT, wp_bind]
  congr 1; funext x κ; congr 1; funext y κ
  rw [← eqo_truth]
  all_goals first | rfl | exact wp_rfl rfl | exact wp_as rfl | (simp only [wp_ok, wp_exc, wp_bad, Res.bindS_ok, Res.bindS_exc, Res.bindS_bad]; done) | (simp only [wp_ok, wp_exc, wp_bad, Res.bindS_ok, Res.bindS_exc, Res.bindS_bad]; first | rfl | exact wp_rfl rfl | exact wp_as rfl)
@[simp] theorem w_stro {a : E} : wp (ev G (.stro a) ρ κ) Q = wp (ev G a ρ κ) fun x κ => wp (opStro G x κ) Q := by
  simp only [ev, wp_bind] <;> first | rfl | exact wp_rfl rfl | exact wp_as rfl | (simp only [wp_ok, wp_exc, wp_bad, Res.bindS_ok, Res.bindS_exc, Res.bindS_bad]; done) | (simp only [wp_ok, wp_exc, wp_bad, Res.bindS_ok, Res.bindS_exc, Res.bindS_bad]; first | rfl | exact wp_rfl rfl | exact wp_as rfl)
@[simp] theorem w_bm {m : BM} {a : E} {es : List E} : wp (ev G (.bm m a es) ρ κ) Q = wp (ev G a ρ κ) fun x κ => wp (opTy m x κ) fun _ κ => wp (evL G es ρ κ) fun ds κ => wp (opBM m x ds κ) Q := by
  simp only [ev, wp_bind] <;> first | rfl | exact wp_rfl rfl | exact wp_as rfl | (simp only [wp_ok, wp_exc, wp_bad, Res.bindS_ok, Res.bindS_exc, Res.bindS_bad]; done) | (simp only [wp_ok, wp_exc, wp_bad, Res.bindS_ok, Res.bindS_exc, Res.bindS_bad]; first | rfl | exact wp_rfl rfl | exact wp_as rfl)
@[simp] theorem o_tyS {m : BM} {z : Str} {QU : Unit → Store → Prop} : wp (opTy m (.str z) κ) QU = QU () κ := by
  cases m <;> first | rfl | exact wp_rfl rfl | exact wp_as rfl | (simp only [wp_ok, wp_exc, wp_bad, Res.bindS_ok, Res.bindS_exc, Res.bindS_bad]; done) | (simp only [wp_ok, wp_exc, wp_bad, Res.bindS_ok, Res.bindS_exc, Res.bindS_bad]; first | rfl | exact wp_rfl rfl | exact wp_as rfl)
@[simp] theorem o_starts {z y : Str} : wp (opBM .starts (.str z) [.str y] κ) Q = Q (.bl (Txt.startswith z y)) κ := wp_rfl rfl
theorem o_split2 {z y : Str} {k : Int} (h : ((y.length == 0) = false ∧ (-(2 ^ 63) ≤ k ∧ k < 2 ^ 63) ∧ z.length + 2 ≤ 16777216)) : wp (opBM .split2 (.str z) [.str y, .int k] κ) Q = Q (.lst ((Txt.splitMax z y k).map D.str)) κ := by
  unfold opBM
  dsimp only
  rw [if_pos h]
  first | rfl | exact wp_rfl rfl | exact wp_as rfl | (simp only [wp_ok, wp_exc, wp_bad, Res.bindS_ok, Res.bindS_exc, Res.bindS_bad]; done) | (simp only [wp_ok, wp_exc, wp_bad, Res.bindS_ok, Res.bindS_exc, Res.bindS_bad]; first | rfl | exact wp_rfl rfl | exact wp_as rfl)
theorem o_eqoI {c : Str} {fs : List (Str × D)} {y : D} {b : Bool} {κ' : Store} (hE : G.kE c = true) (hM : G.isM c "__eq__" = true) (ht : eqTy c y κ = true) (h : G.call (c ++ "." ++ "__eq__") [.ins c fs, y] κ = .ok (.bl b) κ') : wp (opEqo G false (.ins c fs) y κ) Q = Q (.bl b) κ' := by
  have e : opEqo G false (.ins c fs) y κ = .ok (.bl b) κ' := by
    unfold opEqo
    show (if (G.kE c = true ∧ G.isM c "__eq__" = true) ∧ eqTy c y κ = true then _ else _) = _
    rw [if_pos ⟨⟨hE, hM⟩, ht⟩, h]
    first | rfl | exact wp_rfl rfl | exact wp_as rfl | (simp only [wp_ok, wp_exc, wp_bad, Res.bindS_ok, Res.bindS_exc, Res.bindS_bad]; done) | (simp only [wp_ok, wp_exc, wp_bad, Res.bindS_ok, Res.bindS_exc, Res.bindS_bad]; first | rfl | exact wp_rfl rfl | exact wp_as rfl)
  rw [e]
  first | rfl | exact wp_rfl rfl | exact wp_as rfl | (simp only [wp_ok, wp_exc, wp_bad, Res.bindS_ok, Res.bindS_exc, Res.bindS_bad]; done) | (simp only [wp_ok, wp_exc, wp_bad, Res.bindS_ok, Res.bindS_exc, Res.bindS_bad]; first | rfl | exact wp_rfl rfl | exact wp_as rfl)
theorem o_neoI {c : Str} {fs : List (Str × D)} {y : D} {b : Bool} {κ' : Store} (hE : G.kE c = true) (hM : G.isM c "__eq__" = true) (ht : eqTy c y κ = true) (h : G.low (c ++ "." ++ "__eq__") [.ins c fs, y] κ = .ok (.bl b) κ') : wp (opEqo G true (.ins c fs) y κ) Q = Q (.bl (!b)) κ' := by
  have e : opEqo G true (.ins c fs) y κ = .ok (.bl (!b)) κ' := by
    unfold opEqo
    show (if (G.kE c = true ∧ G.isM c "__eq__" = true) ∧ eqTy c y κ = true then _ else _) = _
    rw [if_pos ⟨⟨hE, hM⟩, ht⟩, h]
    first | rfl | exact wp_rfl rfl | exact wp_as rfl | (simp only [wp_ok, wp_exc, wp_bad, Res.bindS_ok, Res.bindS_exc, Res.bindS_bad]; done) | (simp only [wp_ok, wp_exc, wp_bad, Res.bindS_ok, Res.bindS_exc, Res.bindS_bad]; first | rfl | exact wp_rfl rfl | exact wp_as rfl)
  rw [e]
  first | rfl | exact wp_rfl rfl | exact wp_as rfl | (simp only [wp_ok, wp_exc, wp_bad, Res.bindS_ok, Res.bindS_exc, Res.bindS_bad]; done) | (simp only [wp_ok, wp_exc, wp_bad, Res.bindS_ok, Res.bindS_exc, Res.bindS_bad]; first | rfl | exact wp_rfl rfl | exact wp_as rfl)
theorem o_eqoN {n : Bool} {x y : D} (h : insOf κ x = none) : wp (opEqo G n x y κ) Q = wp (opCmp (match n with | true => .ne | false => .eq) x y κ) Q := by
  unfold opEqo
  rw [h]
  all_goals (cases n <;> first | rfl | exact wp_rfl rfl | exact wp_as rfl | (simp only [wp_ok, wp_exc, wp_bad, Res.bindS_ok, Res.bindS_exc, Res.bindS_bad]; done) | (simp only [wp_ok, wp_exc, wp_bad, Res.bindS_ok, Res.bindS_exc, Res.bindS_bad]; first | rfl | exact wp_rfl rfl | exact wp_as rfl))
theorem o_stroI {c : Str} {fs : List (Str × D)} {z : Str} {κ' : Store} (hM : G.isM c "__str__" = true) (h : G.lo2 (c ++ "." ++ "__str__") [.ins c fs] κ = .ok (.str z) κ') : wp (opStro G (.ins c fs) κ) Q = Q (.str z) κ' := by
  have e : opStro G (.ins c fs) κ = .ok (.str z) κ' := by
    unfold opStro
    show (if G.isM c "__str__" = true then _ else _) = _
    rw [if_pos hM, h]
    first | rfl | exact wp_rfl rfl | exact wp_as rfl | (simp only [wp_ok, wp_exc, wp_bad, Res.bindS_ok, Res.bindS_exc, Res.bindS_bad]; done) | (simp only [wp_ok, wp_exc, wp_bad, Res.bindS_ok, Res.bindS_exc, Res.bindS_bad]; first | rfl | exact wp_rfl rfl | exact wp_as rfl)
  rw [e]
  first | rfl | exact wp_rfl rfl | exact wp_as rfl | (simp only [wp_ok, wp_exc, wp_bad, Res.bindS_ok, Res.bindS_exc, Res.bindS_bad]; done) | (simp only [wp_ok, wp_exc, wp_bad, Res.bindS_ok, Res.bindS_exc, Res.bindS_bad]; first | rfl | exact wp_rfl rfl | exact wp_as rfl)
end
end I3
namespace I3
open PySem
theorem run_fill {P : Pgm} {n : Nat} {f : Str} {d : Fn} {ds ds' : List D} {κ : Store} (h : P.fn f = some d) (e : d.fill ds = d.fill ds') : I3.run P (n + 1) f ds κ = I3.run P (n + 1) f ds' κ := by
  have z : ∀ xs : List D, I3.run P (n + 1) f xs κ = (match P.fn f with
    | none => (Res.bad : Res D)
    | some d => if (d.fill xs).length = d.params then
        (evSs (P.gam n) d.body ((d.fill xs).map some ++ List.replicate (d.slots - d.params) none) κ).nox.bind (endD κ.length d.mode)
      else .bad) := fun _ => by rw [run_eq]; rfl
  rw [z, z, h]
  dsimp only
  rw [e]
end I3

set_option Elab.async false
set_option linter.all false
set_option autoImplicit false
set_option maxRecDepth 100000
set_option maxHeartbeats 1000000
/-! LTx: texts as lists of signs: where one sign stands, split, partition. -/
namespace LT
open PySem PySem.Builtin PySem.Builtin.Str PySem.StrLaws
/-- the list of a text's signs, and back -/
abbrev tl (z : PySem.Str) : List Nat := z.cps.toList
abbrev mkS (l : List Nat) : PySem.Str := ⟨l.toArray⟩
@[simp] theorem tl_mkS {l : List Nat} : tl (mkS l) = l := List.toList_toArray
@[simp] theorem mkS_tl {z : PySem.Str} : mkS (tl z) = z := by
  obtain ⟨a⟩ := z
  simp [mkS, tl]
theorem tl_inj {a b : PySem.Str} (h : tl a = tl b) : a = b := by rw [← mkS_tl (z := a), h, mkS_tl]
theorem tl_app {a b : PySem.Str} : tl (a ++ b) = tl a ++ tl b := by
  show (a.cps ++ b.cps).toList = _
  simp
theorem tl_len {z : PySem.Str} : (tl z).length = z.length := Array.length_toList
@[simp] theorem mkS_len {l : List Nat} : (mkS l).length = l.length := by
  show l.toArray.size = _
  simp
/-- where c stands, the first k times -/
def occL (c : Nat) : Nat → Nat → List Nat → List Nat
  | _, _, [] => []
  | k, i, x :: l => if x = c ∧ 0 < k then i :: occL c (k - 1) (i + 1) l else occL c k (i + 1) l
def consHd (x : Nat) : List (List Nat) → List (List Nat)
  | [] => [[x]]
  | p :: ps => (x :: p) :: ps
/-- cut at c, the first k times -/
def splL (c : Nat) : Nat → List Nat → List (List Nat)
  | _, [] => [[]]
  | k, x :: l => if x = c ∧ 0 < k then [] :: splL c (k - 1) l else consHd x (splL c k l)
theorem splL_cons {c k x : Nat} {l : List Nat} : splL c k (x :: l) = if x = c ∧ 0 < k then [] :: splL c (k - 1) l else consHd x (splL c k l) := by rw [splL]
theorem splL_nil {c k : Nat} : splL c k [] = [[]] := by rw [splL]
theorem occ_run (z : PySem.Str) (c k : Nat) : ∀ (m i : Nat) (st : Array Nat × Nat), i + m = z.length + 1 → st.snd ≤ i → st.fst.size ≤ k →
    (forIn (List.range' i m) st (occBody z ⟨#[c]⟩ z.length k)).run.fst.toList = st.fst.toList ++ occL c (k - st.fst.size) i ((tl z).drop i)
  | 0, i, st, h, h1, h2 => by
    have e : (tl z).drop i = [] := List.drop_eq_nil_of_le (by rw [tl_len]; omega)
    rw [e]
    simp [occL]
  | m + 1, i, st, h, h1, h2 => by
    rw [List.range'_succ, List.forIn_cons]
    unfold occBody
    by_cases hi : i < z.length
    · have hi' : i < (tl z).length := by rw [tl_len]; exact hi
      have ed : (tl z).drop i = (tl z)[i] :: (tl z).drop (i + 1) := List.drop_eq_getElem_cons hi'
      rw [ed]
      by_cases hc : (tl z)[i] = c ∧ 0 < k - st.fst.size
      · have hs : (i + (⟨#[c]⟩ : PySem.Str).length ≤ z.length ∧ subAt z ⟨#[c]⟩ i = true) := (subAt_one z c i).mpr (by rw [List.getElem?_eq_getElem hi', hc.1])
        rw [if_pos ⟨⟨⟨by omega, h1⟩, hs.1⟩, hs.2⟩]
        have ih := occ_run z c k m (i + 1) (st.fst.push i, i + 1) (by omega) (Nat.le_refl _) (by rw [Array.size_push]; omega)
        have e1 : occL c (k - st.fst.size) i ((tl z)[i] :: (tl z).drop (i + 1)) = i :: occL c (k - st.fst.size - 1) (i + 1) ((tl z).drop (i + 1)) := by
          show (if (tl z)[i] = c ∧ 0 < k - st.fst.size then _ else _) = _
          rw [if_pos hc]
        rw [e1]
        have e2 : k - (st.fst.push i).size = k - st.fst.size - 1 := by rw [Array.size_push]; omega
        rw [e2] at ih
        refine Eq.trans ih ?_
        simp
      · have hn : ¬ (((st.fst.size < k ∧ st.snd ≤ i) ∧ i + (⟨#[c]⟩ : PySem.Str).length ≤ z.length) ∧ subAt z ⟨#[c]⟩ i = true) := fun q => by
          refine hc ⟨?_, by omega⟩
          have := (subAt_one z c i).mp ⟨q.1.2, q.2⟩
          rw [List.getElem?_eq_getElem hi'] at this
          exact Option.some.inj this
        rw [if_neg hn]
        have ih := occ_run z c k m (i + 1) st (by omega) (by omega) h2
        have e1 : occL c (k - st.fst.size) i ((tl z)[i] :: (tl z).drop (i + 1)) = occL c (k - st.fst.size) (i + 1) ((tl z).drop (i + 1)) := by
          show (if (tl z)[i] = c ∧ 0 < k - st.fst.size then _ else _) = _
          rw [if_neg hc]
        rw [e1]
        exact ih
    · have e : (tl z).drop i = [] := List.drop_eq_nil_of_le (by rw [tl_len]; omega)
      have hn : ¬ (((st.fst.size < k ∧ st.snd ≤ i) ∧ i + (⟨#[c]⟩ : PySem.Str).length ≤ z.length) ∧ subAt z ⟨#[c]⟩ i = true) := fun q => by
        have q1 : i + 1 ≤ z.length := q.1.2
        omega
      rw [if_neg hn]
      have ih := occ_run z c k m (i + 1) st (by omega) (by omega) h2
      have e' : (tl z).drop (i + 1) = [] := List.drop_eq_nil_of_le (by rw [tl_len]; omega)
      rw [e'] at ih
      rw [e]
      exact ih
theorem occ_one (z : PySem.Str) (c k : Nat) : occurrences z ⟨#[c]⟩ 0 z.length k = occL c k 0 (tl z) := by
  rw [occ_eq]
  have := occ_run z c k (z.length + 1 - 0) 0 (#[], 0) (by omega) (Nat.le_refl _) (Nat.zero_le _)
  simpa using this
theorem splL_ne (c k : Nat) (l : List Nat) : ∃ p ps, splL c k l = p :: ps := by
  cases l with
  | nil => exact ⟨_, _, rfl⟩
  | cons x l =>
    unfold splL
    split
    · exact ⟨_, _, rfl⟩
    · cases splL c k l with
      | nil => exact ⟨_, _, rfl⟩
      | cons p ps => exact ⟨_, _, rfl⟩
theorem parts_run (z : PySem.Str) (c : Nat) : ∀ (m a b k : Nat) (p : List Nat) (ps : List (List Nat)), b + m = z.length → a ≤ b → splL c k ((tl z).drop b) = p :: ps →
    partsFrom z 1 a (occL c k b ((tl z).drop b)) = mkS (((tl z).drop a).take (b - a) ++ p) :: ps.map mkS
  | 0, a, b, k, p, ps, h, h1, hs => by
    have e : (tl z).drop b = [] := List.drop_eq_nil_of_le (by rw [tl_len]; omega)
    rw [e] at hs ⊢
    cases hs
    show [strSub z a z.length] = _
    rw [List.append_nil, List.map_nil]
    congr 1
    refine tl_inj ?_
    rw [tl_mkS]
    show (strSub z a z.length).cps.toList = _
    rw [strSub_toList, show b = z.length by omega]
  | m + 1, a, b, k, p, ps, h, h1, hs => by
    have hb : b < (tl z).length := by rw [tl_len]; omega
    have ed : (tl z).drop b = (tl z)[b] :: (tl z).drop (b + 1) := List.drop_eq_getElem_cons hb
    rw [ed] at hs ⊢
    unfold splL at hs
    unfold occL
    by_cases hc : (tl z)[b] = c ∧ 0 < k
    · rw [if_pos hc] at hs ⊢
      cases hs
      obtain ⟨q, qs, eq⟩ := splL_ne c (k - 1) ((tl z).drop (b + 1))
      have ih := parts_run z c m (b + 1) (b + 1) (k - 1) q qs (by omega) (Nat.le_refl _) eq
      show strSub z a b :: partsFrom z 1 (b + 1) (occL c (k - 1) (b + 1) ((tl z).drop (b + 1))) = _
      rw [ih, eq]
      have e1 : strSub z a b = mkS (((tl z).drop a).take (b - a) ++ []) := by
        refine tl_inj ?_
        rw [tl_mkS, List.append_nil]
        exact strSub_toList z a b
      rw [e1]
      simp
    · rw [if_neg hc] at hs ⊢
      obtain ⟨q, qs, eq⟩ := splL_ne c k ((tl z).drop (b + 1))
      rw [eq] at hs
      cases hs
      have ih := parts_run z c m a (b + 1) k q ps (by omega) (by omega) eq
      rw [ih]
      have e1 : ((tl z).drop a).take (b + 1 - a) = ((tl z).drop a).take (b - a) ++ [(tl z)[b]] := by
        rw [show b + 1 - a = (b - a) + 1 by omega, List.take_succ]
        congr 1
        rw [List.getElem?_drop, show a + (b - a) = b by omega, List.getElem?_eq_getElem hb]
        rfl
      rw [e1]
      simp
theorem parts_one (z : PySem.Str) (c k : Nat) : partsBetween z (occurrences z ⟨#[c]⟩ 0 z.length k) 1 = (splL c k (tl z)).map mkS := by
  obtain ⟨p, ps, e⟩ := splL_ne c k (tl z)
  rw [partsBetween_eq, occ_one]
  have h := parts_run z c z.length 0 0 k p ps (by omega) (Nat.le_refl _) (by simpa using e)
  simp at h
  rw [h, e]
  rfl
theorem splL_free {c : Nat} : ∀ {k : Nat} {l : List Nat}, c ∉ l → splL c k l = [l]
  | _, [], _ => rfl
  | k, x :: l, h => by
    have h1 : ¬ x = c := fun e => h (by rw [e]; exact List.mem_cons_self ..)
    unfold splL
    rw [if_neg (fun q => h1 q.1), splL_free (fun q => h (List.mem_cons_of_mem _ q))]
    rfl
theorem splL_zero {c : Nat} : ∀ {l : List Nat}, splL c 0 l = [l]
  | [] => rfl
  | x :: l => by
    unfold splL
    rw [if_neg (fun q => by omega), splL_zero]
    rfl
theorem one_len {c : Nat} : (⟨#[c]⟩ : PySem.Str).length = 1 := rfl
theorem splitMax_one (z : PySem.Str) (c : Nat) (k : Int) : Txt.splitMax z ⟨#[c]⟩ k = (splL c (limitOf z k) (tl z)).map mkS := by
  unfold Txt.splitMax
  split
  · rename_i h
    rw [Bool.or_eq_true, decide_eq_true_eq, decide_eq_true_eq] at h
    have hf : c ∉ tl z := by
      rcases h with h | h
      · have : (tl z).length = 0 := by rw [tl_len]; have h' : z.length < 1 := h; omega
        rw [List.length_eq_zero_iff.mp this]
        simp
      · exact kind_free z c h
    rw [splL_free hf]
    simp
  · split
    · rename_i h
      have e := parts_one z c (limitOf z k)
      rw [List.isEmpty_iff.mp h] at e
      have e2 : partsBetween z [] 1 = [z] := by
        rw [partsBetween_eq]
        show [strSub z 0 z.length] = _
        rw [sub_whole]
      rw [← e, e2]
    · exact parts_one z c (limitOf z k)
theorem splL_big {c : Nat} : ∀ {k j : Nat} {l : List Nat}, l.length ≤ k → l.length ≤ j → splL c k l = splL c j l
  | _, _, [], _, _ => by unfold splL; rfl
  | k, j, x :: l, h, h2 => by
    rw [List.length_cons] at h h2
    unfold splL
    by_cases e : x = c
    · rw [if_pos ⟨e, by omega⟩, if_pos ⟨e, by omega⟩, splL_big (k := k - 1) (j := j - 1) (by omega) (by omega)]
    · rw [if_neg (fun q => e q.1), if_neg (fun q => e q.1), splL_big (k := k) (j := j) (by omega) (by omega)]
/-- cut at every c -/
def splA (c : Nat) (l : List Nat) : List (List Nat) := splL c l.length l
theorem split_one (z : PySem.Str) (c : Nat) : Txt.split z ⟨#[c]⟩ = (splA c (tl z)).map mkS := by
  have hk : splL c (z.length + 1) (tl z) = splA c (tl z) := splL_big (by rw [tl_len]; omega) (Nat.le_refl _)
  unfold Txt.split
  split
  · rename_i h
    rw [Bool.or_eq_true, decide_eq_true_eq, decide_eq_true_eq] at h
    have hf : c ∉ tl z := by
      rcases h with h | h
      · have : (tl z).length = 0 := by rw [tl_len]; have h' : z.length < 1 := h; omega
        rw [List.length_eq_zero_iff.mp this]
        simp
      · exact kind_free z c h
    unfold splA
    rw [splL_free hf]
    simp
  · split
    · rename_i h
      have e := parts_one z c (z.length + 1)
      rw [List.isEmpty_iff.mp h] at e
      have e2 : partsBetween z [] 1 = [z] := by
        rw [partsBetween_eq]
        show [strSub z 0 z.length] = _
        rw [sub_whole]
      rw [← hk, ← e, e2]
    · rw [← hk]
      exact parts_one z c (z.length + 1)
theorem partition_one (z : PySem.Str) (c : Nat) : Txt.partition z ⟨#[c]⟩ = match splL c 1 (tl z) with
    | [a, b] => (mkS a, ⟨#[c]⟩, mkS b)
    | _ => (z, PySem.Str.empty, PySem.Str.empty) := by
  have e := parts_one z c 1
  rw [partsBetween_eq] at e
  have hl := occ_length_le z ⟨#[c]⟩ 0 z.length 1
  unfold Txt.partition
  cases ho : occurrences z ⟨#[c]⟩ 0 z.length 1 with
  | nil =>
    rw [ho] at e
    have e' : [strSub z 0 z.length] = (splL c 1 (tl z)).map mkS := e
    cases hs : splL c 1 (tl z) with
    | nil => rfl
    | cons a r =>
      rw [hs] at e'
      cases r with
      | nil => rfl
      | cons b r => simp at e'
  | cons i r =>
    rw [ho] at e hl
    cases r with
    | cons _ _ => simp at hl
    | nil =>
      have e' : [strSub z 0 i, strSub z (i + 1) z.length] = (splL c 1 (tl z)).map mkS := e
      cases hs : splL c 1 (tl z) with
      | nil => rw [hs] at e'; simp at e'
      | cons a r =>
        rw [hs] at e'
        cases r with
        | nil => simp at e'
        | cons b r =>
          cases r with
          | cons _ _ => simp at e'
          | nil =>
            simp only [List.map_cons, List.map_nil, List.cons.injEq, and_true] at e'
            show (strSub z 0 i, _, strSub z (i + 1) z.length) = _
            rw [e'.1, e'.2]
/-- a word without c ahead of c -/
theorem splL_pre {c k : Nat} : ∀ {a r : List Nat}, c ∉ a → splL c (k + 1) (a ++ c :: r) = a :: splL c k r
  | [], r, _ => by
    show splL c (k + 1) (c :: r) = _
    rw [splL_cons, if_pos ⟨rfl, by omega⟩]
    simp
  | x :: a, r, h => by
    have h1 : ¬ x = c := fun e => h (by rw [e]; exact List.mem_cons_self ..)
    have ih := splL_pre (k := k) (a := a) (r := r) (fun q => h (List.mem_cons_of_mem _ q))
    show splL c (k + 1) (x :: (a ++ c :: r)) = _
    rw [splL_cons, if_neg (fun q => h1 q.1), ih]
    rfl
theorem splA_pre {c : Nat} {a r : List Nat} (h : c ∉ a) : splA c (a ++ c :: r) = a :: splA c r := by
  unfold splA
  have e : (a ++ c :: r).length = (a.length + r.length) + 1 := by simp; omega
  rw [e, splL_pre h]
  rw [splL_big (k := a.length + r.length) (j := r.length) (by omega) (Nat.le_refl _)]
theorem splA_free {c : Nat} {l : List Nat} (h : c ∉ l) : splA c l = [l] := splL_free h
end LT
namespace LT
theorem splL_short {c : Nat} : ∀ {k : Nat} {l p : List Nat}, p ∈ splL c k l → p.length ≤ l.length
  | _, [], p, h => by
    unfold splL at h
    rw [List.mem_singleton.mp h]
    exact Nat.le_refl _
  | k, x :: l, p, h => by
    unfold splL at h
    split at h
    · rcases List.mem_cons.mp h with e | h
      · rw [e]
        exact Nat.zero_le _
      · have := splL_short h
        rw [List.length_cons]
        omega
    · obtain ⟨q, qs, e⟩ := splL_ne c k l
      rw [e] at h
      have hq : q ∈ splL c k l := by rw [e]; exact List.mem_cons_self ..
      rcases List.mem_cons.mp h with e2 | h
      · rw [e2, List.length_cons, List.length_cons]
        have := splL_short hq
        omega
      · have := splL_short (k := k) (l := l) (p := p) (by rw [e]; exact List.mem_cons_of_mem _ h)
        rw [List.length_cons]
        omega
end LT

set_option Elab.async false
set_option linter.all false
set_option autoImplicit false
set_option maxRecDepth 100000
set_option maxHeartbeats 1000000
/-! LNum: the figures of a number. -/
namespace LT
open PySem PySem.NumText PyProof.Rows
def dgs (n : Nat) : List Nat := (Nat.toDigits 10 n).map Char.toNat
theorem tl_nat (n : Nat) : tl (Str.ofString (toString (n : Int))) = dgs n := PySem.W.KIN.signs_num n
theorem dgs_all (n : Nat) : AllDigits (dgs n) := by
  intro c hc
  obtain ⟨ch, hch, e⟩ := List.mem_map.mp hc
  have r := digit_range (Nat.isDigit_of_mem_toDigits (by decide) (by decide) hch)
  rw [← e]
  exact r
theorem dgs_val (n : Nat) : digitsVal (dgs n) = n := PySem.W.KIN.val_back n
theorem dgs_len {n k : Nat} (hk : 1 ≤ k) (h : n < 10 ^ k) : (dgs n).length ≤ k := by
  unfold dgs
  rw [List.length_map]
  exact toDigits_len_pow (by decide) hk h
theorem dgs_pos (n : Nat) : 1 ≤ (dgs n).length := by
  unfold dgs
  rw [List.length_map]
  exact toDigits_len_ge 10 n
theorem dgs_zero : dgs 0 = [48] := by decide +kernel
theorem dgs_head : ∀ (n : Nat), 0 < n → (dgs n).head? ≠ some 48 := by
  intro n
  induction n using Nat.strongRecOn with
  | ind m ih =>
    intro hm
    by_cases h : m < 10
    · have : ∀ m, m < 10 → 0 < m → (dgs m).head? ≠ some 48 := by decide +kernel
      exact this m h hm
    · have hm10 : m % 10 < 10 := Nat.mod_lt m (by decide)
      have t : Nat.toDigits 10 (m / 10) ++ Nat.toDigits 10 (m % 10) = Nat.toDigits 10 (10 * (m / 10) + m % 10) := Nat.toDigits_append_toDigits (by decide) (by omega) hm10
      rw [Nat.div_add_mod] at t
      have e : dgs m = dgs (m / 10) ++ dgs (m % 10) := by
        unfold dgs
        rw [← t, List.map_append]
      have h2 := ih (m / 10) (by omega) (by omega)
      have h3 := dgs_pos (m / 10)
      rw [e]
      cases hd : dgs (m / 10) with
      | nil => rw [hd] at h3; simp at h3
      | cons a r =>
        rw [hd] at h2
        simpa using h2
theorem tl_neg {n : Nat} (h : 0 < n) : tl (Str.ofString (toString (-(n : Int)))) = 45 :: dgs n := by
  obtain ⟨m, rfl⟩ : ∃ m, n = m + 1 := ⟨n - 1, by omega⟩
  have e : (-((m + 1 : Nat) : Int)) = Int.negSucc m := rfl
  have e2 : toString (Int.negSucc m) = "-" ++ toString (m + 1) := rfl
  rw [e, e2, ← I3.ofString_app, tl_app]
  have e3 : tl (Str.ofString "-") = [45] := by decide +kernel
  rw [e3]
  show 45 :: tl (Str.ofString (toString ((m + 1 : Nat) : Int))) = _
  rw [tl_nat]
end LT

set_option Elab.async false
set_option linter.all false
set_option maxRecDepth 100000
set_option maxHeartbeats 0

namespace My
open PySem PySem.Spec PyProof.Rows L2 I3

abbrev R : PySem.W.OpenRow := PySem.W.OpenLaw.row PySem.Challenge.rw_letineditions_k62_lines_refused
def top (i : Nat) : Stmt := PySem.Challenge.pw_letineditions_k62_lines_refused.main.body.getD i (.Pass ⟨0, 0, 0, 0⟩)
def cl (i j : Nat) : Stmt := (clsBody (top i)).getD j (.Pass ⟨0, 0, 0, 0⟩)
def F_is_integer : Fn := { slots := 1, params := 1, mode := .keep, dfl := [], body := [.ret (.and (.isin (.var 0) .int) (.one (.not (.isin (.var 0) .bool))))] }
def F_Kind_holds : Fn := { slots := 2, params := 2, mode := .keep, dfl := [], body := [.ifs (.cmp .eq (.var 0) (.cat ("Kind" : Str) ("TEXT" : Str))) [.ret (.and (.isin (.var 1) .str) (.one (.cmp .le (.f1 .len (.var 1)) (.glob ("MOST_CHARACTERS" : Str)))))] [], .ifs (.not (.e (.call ("is_integer" : Str) [.var 1]))) [.ret (.bl false)] [], .ifs (.cmp .eq (.var 0) (.cat ("Kind" : Str) ("SMALL" : Str))) [.ret (.cmp2 .le .le (.int 0) (.var 1) (.int 255))] [], .ifs (.cmp .eq (.var 0) (.cat ("Kind" : Str) ("WHOLE" : Str))) [.ret (.cmp2 .le .le (.int 0) (.var 1) (.glob ("TOP" : Str)))] [], .ret (.cmp2 .le .le (.neg (.glob ("TOP" : Str))) (.var 1) (.glob ("TOP" : Str)))] }
def F_is_word : Fn := { slots := 2, params := 1, mode := .keep, dfl := [], body := [.ifs (.or (.not (.e (.isin (.var 0) .str))) (.one (.not (.cmp2 .le .le (.int 1) (.f1 .len (.var 0)) (.int 12))))) [.ret (.bl false)] [], .ret (.f1 .all (.comp (.nm 1) (.val (.var 0)) [] (.cmp .inn (.var 1) (.glob ("LETTERS" : Str))) [1]))] }
def F_read_digits : Fn := { slots := 3, params := 2, mode := .keep, dfl := [.int 19], body := [.ifs (.or (.not (.cmp2 .le .le (.int 1) (.f1 .len (.var 0)) (.var 1))) (.one (.not (.e (.f1 .all (.comp (.nm 2) (.val (.var 0)) [] (.cmp .inn (.var 2) (.glob ("FIGURES" : Str))) [2])))))) [.ret .non] [], .ifs (.and (.cmp .eq (.sub (.var 0) (.int 0)) (.str ("0" : Str))) (.one (.cmp .gt (.f1 .len (.var 0)) (.int 1)))) [.ret .non] [], .ret (.f1 .int (.var 0))] }
def F_read_preset : Fn := { slots := 3, params := 2, mode := .keep, dfl := [], body := [.ifs (.cmp .eq (.var 0) (.cat ("Kind" : Str) ("TEXT" : Str))) [.ret (.var 1)] [], .ifs (.e (.bm .starts (.var 1) [.str ("-" : Str)])) [.asg (.nm 2) (.call ("read_digits" : Str) [.slice (.var 1) (.int 1) .non]), .ret (.ife (.or (.cmp .isn (.var 2) .non) (.one (.cmp .eq (.var 2) (.int 0)))) .non (.neg (.var 2)))] [], .ret (.call ("read_digits" : Str) [.var 1])] }
def F_Field___init__ : Fn := { slots := 5, params := 5, mode := .keep, dfl := [.non], body := [.ifs (.or (.not (.e (.call ("is_integer" : Str) [.var 1]))) (.one (.not (.cmp2 .le .le (.int 1) (.var 1) (.glob ("GREATEST_NUMBER" : Str)))))) [.raise ("WrongField" : Str) [.str ("number" : Str)]] [], .ifs (.not (.e (.call ("is_word" : Str) [.var 2]))) [.raise ("WrongField" : Str) [.str ("name" : Str)]] [], .ifs (.or (.not (.e (.isin (.var 3) .str))) (.one (.cmp .ntn (.var 3) (.cat ("Kind" : Str) ("ALL" : Str))))) [.raise ("WrongField" : Str) [.str ("kind" : Str)]] [], .ifs (.and (.cmp .notn (.var 4) .non) (.one (.not (.e (.scall ("Kind" : Str) ("holds" : Str) [.var 3, .var 4]))))) [.raise ("WrongField" : Str) [.str ("preset" : Str)]] [], .setA (.var 0) ("number" : Str) (.var 1), .setA (.var 0) ("name" : Str) (.var 2), .setA (.var 0) ("kind" : Str) (.var 3), .setA (.var 0) ("preset" : Str) (.var 4)] }
def F_Field___eq__ : Fn := { slots := 2, params := 2, mode := .keep, dfl := [], body := [.ifs (.or (.not (.e (.isown (.var 1) ("Field" : Str)))) (.one (.cmp .ne (.attr (.var 0) ("number" : Str)) (.attr (.var 1) ("number" : Str))))) [.ret (.bl false)] [], .ret (.and (.cmp .eq (.attr (.var 0) ("name" : Str)) (.attr (.var 1) ("name" : Str))) (.and (.cmp .eq (.attr (.var 0) ("kind" : Str)) (.attr (.var 1) ("kind" : Str))) (.one (.cmp .eq (.attr (.var 0) ("preset" : Str)) (.attr (.var 1) ("preset" : Str))))))] }
def F_read_field : Fn := { slots := 4, params := 1, mode := .tree, dfl := [], body := [.ifs (.cmp .inn (.str ("\n" : Str)) (.var 0)) [.ret .non] [], .asg (.nm 1) (.bm .split2 (.var 0) [.str (" " : Str), .int 4]), .ifs (.and (.cmp .ne (.f1 .len (.var 1)) (.int 3)) (.one (.or (.cmp .ne (.f1 .len (.var 1)) (.int 5)) (.one (.cmp .ne (.sub (.var 1) (.int 3)) (.str ("=" : Str))))))) [.ret .non] [], .asg (.nm 2) (.call ("read_digits" : Str) [.sub (.var 1) (.int 0)]), .ifs (.or (.cmp .isn (.var 2) .non) (.one (.cmp .ntn (.sub (.var 1) (.int 2)) (.cat ("Kind" : Str) ("ALL" : Str))))) [.ret .non] [], .asg (.nm 3) .non, .ifs (.cmp .eq (.f1 .len (.var 1)) (.int 5)) [.asg (.nm 3) (.call ("read_preset" : Str) [.sub (.var 1) (.int 2), .sub (.var 1) (.int 4)]), .ifs (.cmp .isn (.var 3) .non) [.ret .non] []] [], .try_ [.ret (.make ("Field" : Str) [.var 2, .sub (.var 1) (.int 1), .sub (.var 1) (.int 2), .var 3] .tree)] ("WrongField" : Str) none [.ret .non]] }
def F__law_deck : Fn := { slots := 3, params := 2, mode := .keep, dfl := [], body := [.asg (.nm 2) (.ife (.cmp .lt (.var 1) (.f1 .len (.var 0))) (.f1 .int (.sub (.var 0) (.var 1))) (.int 0)), .ret (.lstC [.ife (.cmp .ge (.f1 .abs (.var 2)) (.bin .pow (.int 10) (.int 18))) (.f1 .abs (.var 2)) (.int 0), .bin .mod (.var 2) (.int 2305843009213693951), .var 1, .int 0])] }
def F__law_draw : Fn := { slots := 4, params := 2, mode := .keep, dfl := [], body := [.ifs (.cmp .gt (.sub (.var 0) (.int 0)) (.int 0)) [.asg (.nm 3) (.bin .mod (.f1 .int (.sub (.var 0) (.int 0))) (.var 1)), .setI (.var 0) (.int 0) (.bin .fdiv (.sub (.var 0) (.int 0)) (.var 1)), .ret (.var 3)] [], .setI (.var 0) (.int 3) (.bin .add (.sub (.var 0) (.int 3)) (.int 1)), .ifs (.cmp .eq (.sub (.var 0) (.int 1)) (.int 0)) [.ret (.bin .mod (.f1 .int (.bin .add (.sub (.var 0) (.int 3)) (.sub (.var 0) (.int 2)))) (.var 1))] [], .asg (.nm 2) (.bin .mod (.f1 .int (.bin .pow (.bin .add (.bin .add (.sub (.var 0) (.int 1)) (.bin .mul (.int 7368787) (.sub (.var 0) (.int 3)))) (.bin .mul (.int 104729) (.sub (.var 0) (.int 2)))) (.int 3))) (.int 2305843009213693951)), .asg (.nm 2) (.bin .mod (.f1 .int (.bin .pow (.bin .add (.bin .add (.var 2) (.bin .mul (.int 15485863) (.sub (.var 0) (.int 3)))) (.int 611953)) (.int 2))) (.int 1152921504606846883)), .ret (.bin .mod (.f1 .int (.bin .fdiv (.var 2) (.int 4093))) (.var 1))] }
def F__law_pick : Fn := { slots := 2, params := 2, mode := .keep, dfl := [], body := [.ret (.sub (.var 1) (.call ("_law_draw" : Str) [.var 0, .f1 .len (.var 1)]))] }
def F__law_word : Fn := { slots := 2, params := 1, mode := .keep, dfl := [], body := [.ret (.join (.str ("" : Str)) (.comp (.nm 1) (.rng1 (.bin .add (.int 1) (.call ("_law_draw" : Str) [.var 0, .int 12]))) [] (.call ("_law_pick" : Str) [.var 0, .str ("abcdefghijklmnopqrstuvwxyz" : Str)]) [1]))] }
def F__law_text : Fn := { slots := 4, params := 2, mode := .keep, dfl := [], body := [.asg (.nm 2) (.str (" !\"#$&'()*+,-./0123456789:;<=>?@ABCDEFGHIJKLMNOPQRSTUVWXYZ[\\]^_`abcdefghijklmnopqrstuvwxyz{|}~" : Str)), .ret (.join (.str ("" : Str)) (.comp (.nm 3) (.rng1 (.var 1)) [] (.call ("_law_pick" : Str) [.var 0, .var 2]) [3]))] }
def F__law_value : Fn := { slots := 4, params := 2, mode := .keep, dfl := [], body := [.ifs (.cmp .eq (.var 1) (.str ("text" : Str))) [.ret (.call ("_law_text" : Str) [.var 0, .call ("_law_pick" : Str) [.var 0, .lst [.int 0, .int 1, .int 2, .int 5, .int 59, .int 60]]])] [], .asg (.nm 2) (.ife (.cmp .eq (.var 1) (.str ("small" : Str))) (.int 255) (.bin .pow (.int 10) (.int 18))), .asg (.nm 3) (.call ("_law_pick" : Str) [.var 0, .lst [.int 0, .int 1, .int 2, .int 255, .var 2, .bin .sub (.var 2) (.int 1), .call ("_law_draw" : Str) [.var 0, .bin .add (.var 2) (.int 1)], .call ("_law_draw" : Str) [.var 0, .int 200]]]), .ret (.ife (.and (.cmp .eq (.var 1) (.str ("signed" : Str))) (.one (.cmp .eq (.call ("_law_draw" : Str) [.var 0, .int 2]) (.int 1)))) (.neg (.var 3)) (.var 3))] }
def F__law_made : Fn := { slots := 1, params := 1, mode := .keep, dfl := [], body := [.ret (.make ("Field" : Str) [.sub (.var 0) (.int 0), .sub (.var 0) (.int 1), .sub (.var 0) (.int 2), .sub (.var 0) (.int 3)] .tree)] }
def F__law_line : Fn := { slots := 2, params := 1, mode := .keep, dfl := [], body := [.asg (.nm 1) (.bin .add (.bin .add (.bin .add (.bin .add (.f1 .str (.sub (.var 0) (.int 0))) (.str (" " : Str))) (.sub (.var 0) (.int 1))) (.str (" " : Str))) (.sub (.var 0) (.int 2))), .ret (.ife (.cmp .isn (.sub (.var 0) (.int 3)) .non) (.var 1) (.bin .add (.bin .add (.var 1) (.str (" = " : Str))) (.f1 .str (.sub (.var 0) (.int 3)))))] }
def F__law_row : Fn := { slots := 4, params := 1, mode := .keep, dfl := [], body := [.asg (.nm 1) (.call ("_law_pick" : Str) [.var 0, .lst [.str ("small" : Str), .str ("whole" : Str), .str ("signed" : Str), .str ("text" : Str)]]), .asg (.nm 2) (.call ("_law_pick" : Str) [.var 0, .lst [.int 1, .int 2, .int 9, .int 10, .int 99999, .int 100000, .int 999999, .bin .add (.int 1) (.call ("_law_draw" : Str) [.var 0, .int 999999])]]), .asg (.nm 3) (.ife (.cmp .gt (.call ("_law_draw" : Str) [.var 0, .int 3]) (.int 0)) (.call ("_law_value" : Str) [.var 0, .var 1]) .non), .ret (.tup [.var 2, .call ("_law_word" : Str) [.var 0], .var 1, .var 3])] }
def F__law_spoilt_words : Fn := { slots := 10, params := 2, mode := .keep, dfl := [], body := [.asg (.tp [.nm 4, .nm 5, .nm 6]) (.tup [.f1 .str (.sub (.var 1) (.int 0)), .sub (.var 1) (.int 1), .sub (.var 1) (.int 2)]), .asg (.nm 2) (.bin .add (.bin .add (.bin .add (.str (" " : Str)) (.var 5)) (.str (" " : Str))) (.var 6)), .par 7 8 (.bin .add (.slice (.var 5) .non (.int 6)) (.str ("abcdefghijklm" : Str))) (.call ("_law_pick" : Str) [.var 0, .lst [.str ("A" : Str), .str ("1" : Str), .str ("-" : Str), .str ("_" : Str), .str (" a" : Str), .str ("Z" : Str)]]), .asg (.nm 3) (.lst [.str ("" : Str), .str (" " : Str), .var 4, .bin .add (.var 4) (.str (" " : Str)), .bin .add (.bin .add (.var 4) (.str (" " : Str))) (.var 5), .bin .add (.bin .add (.bin .add (.var 4) (.str (" " : Str))) (.var 5)) (.str (" " : Str)), .var 2, .bin .add (.bin .add (.str (" " : Str)) (.var 4)) (.var 2)]), .asg (.nm 3) (.bin .add (.var 3) (.lst [.bin .add (.bin .add (.str ("0" : Str)) (.var 4)) (.var 2), .bin .add (.bin .add (.str ("+" : Str)) (.var 4)) (.var 2), .bin .add (.bin .add (.str ("-" : Str)) (.var 4)) (.var 2), .bin .add (.str ("0" : Str)) (.var 2), .bin .add (.str ("1000000" : Str)) (.var 2)])), .asg (.nm 3) (.bin .add (.var 3) (.lst [.bin .add (.f1 .str (.bin .add (.bin .pow (.int 10) (.int 18)) (.sub (.var 1) (.int 0)))) (.var 2), .bin .add (.f1 .str (.bin .add (.bin .pow (.int 10) (.int 30)) (.sub (.var 1) (.int 0)))) (.var 2), .bin .add (.bin .add (.str ("x" : Str)) (.var 4)) (.var 2), .bin .add (.bin .add (.var 4) (.str (".0" : Str))) (.var 2), .bin .add (.bin .add (.var 4) (.str ("_0" : Str))) (.var 2), .bin .add (.bin .add (.var 4) (.str ("_" : Str))) (.var 2), .bin .add (.bin .add (.str ("_" : Str)) (.var 4)) (.var 2)])), .asg (.nm 3) (.bin .add (.var 3) (.lst [.bin .add (.bin .add (.bin .add (.bin .add (.var 4) (.str ("  " : Str))) (.var 5)) (.str (" " : Str))) (.var 6), .bin .add (.bin .add (.bin .add (.bin .add (.var 4) (.str (" " : Str))) (.var 5)) (.str ("  " : Str))) (.var 6), .bin .add (.bin .add (.bin .add (.var 4) (.str (" " : Str))) (.var 5)) (.var 6)])), .asg (.nm 3) (.bin .add (.var 3) (.lst [.bin .add (.bin .add (.bin .add (.bin .add (.var 4) (.str (" " : Str))) (.var 7)) (.str (" " : Str))) (.var 6), .bin .add (.bin .add (.bin .add (.bin .add (.bin .add (.var 4) (.str (" " : Str))) (.slice (.var 5) .non (.int 11))) (.var 8)) (.str (" " : Str))) (.var 6)])), .asg (.nm 3) (.bin .add (.var 3) (.lst [.bin .add (.bin .add (.bin .add (.bin .add (.bin .add (.var 4) (.str (" " : Str))) (.var 8)) (.slice (.var 5) .non (.int 10))) (.str (" " : Str))) (.var 6), .bin .add (.bin .add (.var 4) (.str ("  " : Str))) (.var 6), .bin .add (.bin .add (.var 4) (.str (" " : Str))) (.var 6)])), .asg (.nm 3) (.bin .add (.var 3) (.comp (.nm 9) (.val (.lst [.str ("Small" : Str), .str ("int" : Str), .str ("smal" : Str), .str ("texts" : Str), .str ("signed," : Str), .str ("WHOLE" : Str), .str ("=" : Str)])) [] (.bin .add (.bin .add (.bin .add (.bin .add (.var 4) (.str (" " : Str))) (.var 5)) (.str (" " : Str))) (.var 9)) [9])), .ret (.bin .add (.var 3) (.lst [.bin .add (.bin .add (.bin .add (.bin .add (.var 5) (.str (" " : Str))) (.var 4)) (.str (" " : Str))) (.var 6), .bin .add (.bin .add (.bin .add (.bin .add (.var 4) (.str (" " : Str))) (.var 5)) (.str ("," : Str))) (.var 6)]))] }
def F__law_spoilt_presets : Fn := { slots := 7, params := 2, mode := .keep, dfl := [], body := [.asg (.nm 2) (.bin .add (.bin .add (.bin .add (.f1 .str (.sub (.var 1) (.int 0))) (.str (" " : Str))) (.sub (.var 1) (.int 1))) (.str (" " : Str))), .asg (.nm 3) (.lst [.bin .add (.bin .add (.var 2) (.str ("text = " : Str))) (.call ("_law_text" : Str) [.var 0, .int 61]), .bin .add (.var 2) (.str ("text =" : Str)), .bin .add (.var 2) (.str ("text= a" : Str)), .bin .add (.var 2) (.str ("text  = a" : Str))]), .asg (.nm 3) (.bin .add (.var 3) (.lst [.bin .add (.var 2) (.str ("text a" : Str)), .bin .add (.var 2) (.str ("text == a" : Str)), .bin .add (.var 2) (.str ("text " : Str)), .bin .add (.var 2) (.str ("text = a\nb" : Str)), .bin .add (.var 2) (.str ("text\n" : Str))])), .for_ (.nm 4) (.val (.lst [.str ("small" : Str), .str ("whole" : Str), .str ("signed" : Str)])) [.asg (.nm 5) (.lst [.str ("" : Str), .str (" " : Str), .str ("00" : Str), .str ("01" : Str), .str ("+1" : Str), .str ("-0" : Str), .str ("1 " : Str), .str (" 1" : Str), .str ("1.0" : Str), .str ("one" : Str), .str ("-" : Str), .str ("--1" : Str), .str ("1-" : Str), .str ("True" : Str), .str ("None" : Str), .str ("0x1" : Str)]), .asg (.nm 5) (.bin .add (.var 5) (.lst [.str ("1000000000000000001" : Str), .f1 .str (.bin .add (.bin .pow (.int 10) (.int 19)) (.sub (.var 1) (.int 0))), .bin .mul (.str ("9" : Str)) (.int 60), .str ("needed" : Str), .str ("1_0" : Str), .str ("1_" : Str), .str ("_1" : Str), .str ("-00" : Str), .str ("-01" : Str)])), .ifs (.cmp .ne (.var 4) (.str ("signed" : Str))) [.asg (.nm 5) (.bin .add (.var 5) (.lst [.str ("-1" : Str), .bin .add (.str ("-" : Str)) (.f1 .str (.sub (.var 1) (.int 0)))]))] [.asg (.nm 5) (.bin .add (.var 5) (.lst [.str ("-1000000000000000001" : Str), .bin .add (.str ("-" : Str)) (.bin .mul (.str ("9" : Str)) (.int 20))]))], .ifs (.cmp .eq (.var 4) (.str ("small" : Str))) [.asg (.nm 5) (.bin .add (.var 5) (.lst [.str ("256" : Str), .f1 .str (.bin .add (.int 256) (.sub (.var 1) (.int 0))), .str ("1000000000000000000" : Str)]))] [], .asg (.nm 3) (.bin .add (.var 3) (.comp (.nm 6) (.val (.var 5)) [] (.bin .add (.bin .add (.bin .add (.var 2) (.var 4)) (.str (" = " : Str))) (.var 6)) [6])), .asg (.nm 3) (.bin .add (.var 3) (.lst [.bin .add (.bin .add (.var 2) (.var 4)) (.str (" =1" : Str)), .bin .add (.bin .add (.var 2) (.var 4)) (.str ("= 1" : Str)), .bin .add (.bin .add (.var 2) (.var 4)) (.str (" 1" : Str)), .bin .add (.bin .add (.var 2) (.var 4)) (.str (" = 1\n" : Str))]))], .ret (.var 3)] }
def F__law_same : Fn := { slots := 2, params := 2, mode := .keep, dfl := [], body := [.ret (.and (.isown (.var 0) ("Field" : Str)) (.one (.eqo false (.var 0) (.call ("_law_made" : Str) [.var 1]))))] }
def F_law : Fn := { slots := 9, params := 1, mode := .keep, dfl := [], body := [.for_ (.nm 1) (.rng1 (.max2 (.int 1) (.min2 (.int 8) (.f1 .len (.var 0))))) [.asg (.nm 2) (.call ("_law_deck" : Str) [.var 0, .var 1]), .asg (.nm 3) (.call ("_law_row" : Str) [.var 2]), .ifs (.not (.e (.call ("_law_same" : Str) [.call ("read_field" : Str) [.call ("_law_line" : Str) [.var 3]], .var 3]))) [.ret (.bl false)] [], .for_ (.nm 4) (.val (.bin .add (.call ("_law_spoilt_words" : Str) [.var 2, .var 3]) (.call ("_law_spoilt_presets" : Str) [.var 2, .var 3]))) [.ifs (.cmp .notn (.call ("read_field" : Str) [.var 4]) .non) [.ret (.bl false)] []], .for_ (.tp [.nm 5, .nm 6, .nm 7]) (.val (.lst [.tup [.str ("255" : Str), .str ("small" : Str), .int 255], .tup [.str ("0" : Str), .str ("whole" : Str), .int 0], .tup [.str ("-1" : Str), .str ("signed" : Str), .neg (.int 1)], .tup [.str ("1 " : Str), .str ("text" : Str), .str ("1 " : Str)]])) [.asg (.nm 8) (.tup [.sub (.var 3) (.int 0), .sub (.var 3) (.int 1), .var 6, .var 7]), .ifs (.not (.e (.call ("_law_same" : Str) [.call ("read_field" : Str) [.bin .add (.bin .add (.bin .add (.bin .add (.bin .add (.bin .add (.f1 .str (.sub (.var 3) (.int 0))) (.str (" " : Str))) (.sub (.var 3) (.int 1))) (.str (" " : Str))) (.var 6)) (.str (" = " : Str))) (.var 5)], .var 8]))) [.ret (.bl false)] []], .ifs (.not (.e (.call ("_law_same" : Str) [.call ("read_field" : Str) [.call ("_law_line" : Str) [.var 3]], .var 3]))) [.ret (.bl false)] []], .ret (.bl true)] }
def d_is_integer : DefI := { loc := .glo ("is_integer" : Str), args := defArgs (top 7), body := defBody (top 7), scope := defScope (top 7), ps := [("value" : Str)], N := [("value" : Str)], fs := [], ss := [], fn := F_is_integer }
def d_Kind_holds : DefI := { loc := .sta ("Kind" : Str) ("holds" : Str), args := defArgs (cl 8 5), body := defBody (cl 8 5), scope := defScope (cl 8 5), ps := [("kind" : Str), ("value" : Str)], N := [("kind" : Str), ("value" : Str)], fs := [("is_integer" : Str)], ss := [], fn := F_Kind_holds }
def d_is_word : DefI := { loc := .glo ("is_word" : Str), args := defArgs (top 13), body := defBody (top 13), scope := defScope (top 13), ps := [("value" : Str)], N := [("value" : Str), ("letter" : Str)], fs := [], ss := [], fn := F_is_word }
def d_read_digits : DefI := { loc := .glo ("read_digits" : Str), args := defArgs (top 14), body := defBody (top 14), scope := defScope (top 14), ps := [("text" : Str), ("most" : Str)], N := [("text" : Str), ("most" : Str), ("figure" : Str)], fs := [], ss := [], fn := F_read_digits }
def d_read_preset : DefI := { loc := .glo ("read_preset" : Str), args := defArgs (top 15), body := defBody (top 15), scope := defScope (top 15), ps := [("kind" : Str), ("text" : Str)], N := [("kind" : Str), ("text" : Str), ("value" : Str)], fs := [("read_digits" : Str)], ss := [], fn := F_read_preset }
def d_Field___init__ : DefI := { loc := .mth ("Field" : Str) ("__init__" : Str), args := defArgs (cl 16 0), body := defBody (cl 16 0), scope := defScope (cl 16 0), ps := [("self" : Str), ("number" : Str), ("name" : Str), ("kind" : Str), ("preset" : Str)], N := [("self" : Str), ("number" : Str), ("name" : Str), ("kind" : Str), ("preset" : Str)], fs := [("is_integer" : Str), ("is_word" : Str)], ss := [(("Kind" : Str), ("holds" : Str))], fn := F_Field___init__ }
def d_Field___eq__ : DefI := { loc := .mth ("Field" : Str) ("__eq__" : Str), args := defArgs (cl 16 2), body := defBody (cl 16 2), scope := defScope (cl 16 2), ps := [("self" : Str), ("other" : Str)], N := [("self" : Str), ("other" : Str)], fs := [], ss := [], fn := F_Field___eq__ }
def d_read_field : DefI := { loc := .glo ("read_field" : Str), args := defArgs (top 17), body := defBody (top 17), scope := defScope (top 17), ps := [("line" : Str)], N := [("line" : Str), ("parts" : Str), ("number" : Str), ("preset" : Str)], fs := [("read_digits" : Str), ("read_preset" : Str)], ss := [], fn := F_read_field }
def d__law_deck : DefI := { loc := .glo ("_law_deck" : Str), args := defArgs (top 19), body := defBody (top 19), scope := defScope (top 19), ps := [("_law_script" : Str), ("_law_at" : Str)], N := [("_law_script" : Str), ("_law_at" : Str), ("_law_cell" : Str)], fs := [], ss := [], fn := F__law_deck }
def d__law_draw : DefI := { loc := .glo ("_law_draw" : Str), args := defArgs (top 20), body := defBody (top 20), scope := defScope (top 20), ps := [("_law_deck_here" : Str), ("_law_many" : Str)], N := [("_law_deck_here" : Str), ("_law_many" : Str), ("_law_mixed" : Str), ("_law_digit" : Str)], fs := [], ss := [], fn := F__law_draw }
def d__law_pick : DefI := { loc := .glo ("_law_pick" : Str), args := defArgs (top 21), body := defBody (top 21), scope := defScope (top 21), ps := [("_law_deck_here" : Str), ("_law_some" : Str)], N := [("_law_deck_here" : Str), ("_law_some" : Str)], fs := [("_law_draw" : Str)], ss := [], fn := F__law_pick }
def d__law_word : DefI := { loc := .glo ("_law_word" : Str), args := defArgs (top 22), body := defBody (top 22), scope := defScope (top 22), ps := [("_law_deck_here" : Str)], N := [("_law_deck_here" : Str), ("_law_turn" : Str)], fs := [("_law_draw" : Str), ("_law_pick" : Str)], ss := [], fn := F__law_word }
def d__law_text : DefI := { loc := .glo ("_law_text" : Str), args := defArgs (top 23), body := defBody (top 23), scope := defScope (top 23), ps := [("_law_deck_here" : Str), ("_law_many" : Str)], N := [("_law_deck_here" : Str), ("_law_many" : Str), ("_law_signs" : Str), ("_law_turn" : Str)], fs := [("_law_pick" : Str)], ss := [], fn := F__law_text }
def d__law_value : DefI := { loc := .glo ("_law_value" : Str), args := defArgs (top 24), body := defBody (top 24), scope := defScope (top 24), ps := [("_law_deck_here" : Str), ("_law_kind" : Str)], N := [("_law_deck_here" : Str), ("_law_kind" : Str), ("_law_top" : Str), ("_law_worth" : Str)], fs := [("_law_text" : Str), ("_law_pick" : Str), ("_law_draw" : Str)], ss := [], fn := F__law_value }
def d__law_made : DefI := { loc := .glo ("_law_made" : Str), args := defArgs (top 25), body := defBody (top 25), scope := defScope (top 25), ps := [("_law_row_here" : Str)], N := [("_law_row_here" : Str)], fs := [], ss := [], fn := F__law_made }
def d__law_line : DefI := { loc := .glo ("_law_line" : Str), args := defArgs (top 26), body := defBody (top 26), scope := defScope (top 26), ps := [("_law_row_here" : Str)], N := [("_law_row_here" : Str), ("_law_line_here" : Str)], fs := [], ss := [], fn := F__law_line }
def d__law_row : DefI := { loc := .glo ("_law_row" : Str), args := defArgs (top 27), body := defBody (top 27), scope := defScope (top 27), ps := [("_law_deck_here" : Str)], N := [("_law_deck_here" : Str), ("_law_kind" : Str), ("_law_number" : Str), ("_law_preset" : Str)], fs := [("_law_pick" : Str), ("_law_draw" : Str), ("_law_value" : Str), ("_law_word" : Str)], ss := [], fn := F__law_row }
def d__law_spoilt_words : DefI := { loc := .glo ("_law_spoilt_words" : Str), args := defArgs (top 28), body := defBody (top 28), scope := defScope (top 28), ps := [("_law_deck_here" : Str), ("_law_row_here" : Str)], N := [("_law_deck_here" : Str), ("_law_row_here" : Str), ("_law_rest" : Str), ("_law_found" : Str), ("_law_number" : Str), ("_law_name" : Str), ("_law_kind" : Str), ("_law_long" : Str), ("_law_odd" : Str), ("_law_word_here" : Str)], fs := [("_law_pick" : Str)], ss := [], fn := F__law_spoilt_words }
def d__law_spoilt_presets : DefI := { loc := .glo ("_law_spoilt_presets" : Str), args := defArgs (top 29), body := defBody (top 29), scope := defScope (top 29), ps := [("_law_deck_here" : Str), ("_law_row_here" : Str)], N := [("_law_deck_here" : Str), ("_law_row_here" : Str), ("_law_start" : Str), ("_law_found" : Str), ("_law_kind" : Str), ("_law_words" : Str), ("_law_word_here" : Str)], fs := [("_law_text" : Str)], ss := [], fn := F__law_spoilt_presets }
def d__law_same : DefI := { loc := .glo ("_law_same" : Str), args := defArgs (top 30), body := defBody (top 30), scope := defScope (top 30), ps := [("_law_told" : Str), ("_law_row_here" : Str)], N := [("_law_told" : Str), ("_law_row_here" : Str)], fs := [("_law_made" : Str)], ss := [], fn := F__law_same }
def d_law : DefI := { loc := .glo ("law" : Str), args := defArgs (top 31), body := defBody (top 31), scope := defScope (top 31), ps := [("_law_script" : Str)], N := [("_law_script" : Str), ("_law_at" : Str), ("_law_deck_here" : Str), ("_law_row_here" : Str), ("_law_line_here" : Str), ("_law_word_here" : Str), ("_law_kind" : Str), ("_law_worth" : Str), ("_law_good" : Str)], fs := [("_law_deck" : Str), ("_law_row" : Str), ("_law_same" : Str), ("read_field" : Str), ("_law_line" : Str), ("_law_spoilt_words" : Str), ("_law_spoilt_presets" : Str)], ss := [], fn := F_law }
def x_WrongField : XInit := { cls := ("WrongField" : Str), base := ("EditionsError" : Str), args := defArgs (cl 3 0), body := defBody (cl 3 0), scope := defScope (cl 3 0), ps := [("self" : Str), ("what" : Str)], xi := { fs := [("what" : Str)], pt := [.s ("wrong field: " : Str), .v 0] } }
def tb : Tb := { tab := [d_is_integer, d_Kind_holds, d_is_word, d_read_digits, d_read_preset, d_Field___init__, d_Field___eq__, d_read_field, d__law_deck, d__law_draw, d__law_pick, d__law_word, d__law_text, d__law_value, d__law_made, d__law_line, d__law_row, d__law_spoilt_words, d__law_spoilt_presets, d__law_same, d_law], gl := [(("MOST_CHARACTERS" : Str), .int 60), (("TOP" : Str), .int 1000000000000000000), (("LETTERS" : Str), .str ("abcdefghijklmnopqrstuvwxyz" : Str)), (("FIGURES" : Str), .str ("0123456789" : Str)), (("GREATEST_NUMBER" : Str), .int 999999)], ct := [((("Kind" : Str), ("TEXT" : Str)), .str ("text" : Str)), ((("Kind" : Str), ("SMALL" : Str)), .str ("small" : Str)), ((("Kind" : Str), ("WHOLE" : Str)), .str ("whole" : Str)), ((("Kind" : Str), ("ALL" : Str)), .tup [.str ("small" : Str), .str ("whole" : Str), .str ("signed" : Str), .str ("text" : Str)])], at_ := [((("Field" : Str), ("number" : Str)), .fld), ((("Field" : Str), ("name" : Str)), .fld), ((("Field" : Str), ("kind" : Str)), .fld), ((("Field" : Str), ("preset" : Str)), .fld)], mks := [("Field" : Str)], kCs := [("Field" : Str)], kIs := [((("Field" : Str), .int), false), ((("Field" : Str), .str), false), ((("Field" : Str), .bool), false), ((("Field" : Str), .list), false), ((("Field" : Str), .tuple), false), ((("Field" : Str), .dict), false)], kBs := [(("NoneType", ("Field" : Str)), false), (("bool", ("Field" : Str)), false), (("int", ("Field" : Str)), false), (("str", ("Field" : Str)), false), (("tuple", ("Field" : Str)), false), (("list", ("Field" : Str)), false), (("dict", ("Field" : Str)), false)], kOs := [((("Field" : Str), ("Field" : Str)), true)], xs := [x_WrongField], kXs := [((("WrongField" : Str), ("WrongField" : Str)), true)], kYs := [], xas := [], kNs := [("WrongField" : Str)], kEs := [("Field" : Str)] }
theorem wf : tb.wf = true := by kernel_rfl
theorem wf2 : tb.wf2 = true := by kernel_rfl
theorem wf3 : tb.xs.all XInit.chk = true := by kernel_rfl
theorem b_is_integer : d_is_integer.bound := .inl ⟨rfl, fun _ _ _ _ _ _ us hl => match us, hl with | [_], _ => rfl⟩
theorem b_Kind_holds : d_Kind_holds.bound := .inl ⟨rfl, fun _ _ _ _ _ _ us hl => match us, hl with | [_, _], _ => rfl⟩
theorem b_is_word : d_is_word.bound := .inl ⟨rfl, fun _ _ _ _ _ _ us hl => match us, hl with | [_], _ => rfl⟩
theorem b_read_digits_0 : d_read_digits.boundJ (d_read_digits.ps.length - (d_read_digits.fn.dfl.length - 0)) d_read_digits.fn.dfl.length 0 := bound_j (n := 1) (m := 1) (by decide) (by decide) fun _ _ _ _ _ _ _ us its h1 h2 => match us, its, h1, h2 with | [_], [_], _, _ => ⟨_, rfl, rfl⟩
theorem b_read_digits_1 : d_read_digits.boundJ (d_read_digits.ps.length - (d_read_digits.fn.dfl.length - 1)) d_read_digits.fn.dfl.length 1 := bound_j (n := 2) (m := 1) (by decide) (by decide) fun _ _ _ _ _ _ _ us its h1 h2 => match us, its, h1, h2 with | [_, _], [_], _, _ => ⟨_, rfl, rfl⟩
theorem b_read_digits : d_read_digits.bound := .inr ⟨fun h => (nomatch h), le_cases (p := fun j => d_read_digits.boundJ (d_read_digits.ps.length - (d_read_digits.fn.dfl.length - j)) d_read_digits.fn.dfl.length j) (m := 1) (l := [0, 1]) rfl (all_cons b_read_digits_0 (all_cons b_read_digits_1 (all_nil)))⟩
theorem b_read_preset : d_read_preset.bound := .inl ⟨rfl, fun _ _ _ _ _ _ us hl => match us, hl with | [_, _], _ => rfl⟩
theorem b_Field___init___0 : d_Field___init__.boundJ (d_Field___init__.ps.length - (d_Field___init__.fn.dfl.length - 0)) d_Field___init__.fn.dfl.length 0 := bound_j (n := 4) (m := 1) (by decide) (by decide) fun _ _ _ _ _ _ _ us its h1 h2 => match us, its, h1, h2 with | [_, _, _, _], [_], _, _ => ⟨_, rfl, rfl⟩
theorem b_Field___init___1 : d_Field___init__.boundJ (d_Field___init__.ps.length - (d_Field___init__.fn.dfl.length - 1)) d_Field___init__.fn.dfl.length 1 := bound_j (n := 5) (m := 1) (by decide) (by decide) fun _ _ _ _ _ _ _ us its h1 h2 => match us, its, h1, h2 with | [_, _, _, _, _], [_], _, _ => ⟨_, rfl, rfl⟩
theorem b_Field___init__ : d_Field___init__.bound := .inr ⟨fun h => (nomatch h), le_cases (p := fun j => d_Field___init__.boundJ (d_Field___init__.ps.length - (d_Field___init__.fn.dfl.length - j)) d_Field___init__.fn.dfl.length j) (m := 1) (l := [0, 1]) rfl (all_cons b_Field___init___0 (all_cons b_Field___init___1 (all_nil)))⟩
theorem b_Field___eq__ : d_Field___eq__.bound := .inl ⟨rfl, fun _ _ _ _ _ _ us hl => match us, hl with | [_, _], _ => rfl⟩
theorem b_read_field : d_read_field.bound := .inl ⟨rfl, fun _ _ _ _ _ _ us hl => match us, hl with | [_], _ => rfl⟩
theorem b__law_deck : d__law_deck.bound := .inl ⟨rfl, fun _ _ _ _ _ _ us hl => match us, hl with | [_, _], _ => rfl⟩
theorem b__law_draw : d__law_draw.bound := .inl ⟨rfl, fun _ _ _ _ _ _ us hl => match us, hl with | [_, _], _ => rfl⟩
theorem b__law_pick : d__law_pick.bound := .inl ⟨rfl, fun _ _ _ _ _ _ us hl => match us, hl with | [_, _], _ => rfl⟩
theorem b__law_word : d__law_word.bound := .inl ⟨rfl, fun _ _ _ _ _ _ us hl => match us, hl with | [_], _ => rfl⟩
theorem b__law_text : d__law_text.bound := .inl ⟨rfl, fun _ _ _ _ _ _ us hl => match us, hl with | [_, _], _ => rfl⟩
theorem b__law_value : d__law_value.bound := .inl ⟨rfl, fun _ _ _ _ _ _ us hl => match us, hl with | [_, _], _ => rfl⟩
theorem b__law_made : d__law_made.bound := .inl ⟨rfl, fun _ _ _ _ _ _ us hl => match us, hl with | [_], _ => rfl⟩
theorem b__law_line : d__law_line.bound := .inl ⟨rfl, fun _ _ _ _ _ _ us hl => match us, hl with | [_], _ => rfl⟩
theorem b__law_row : d__law_row.bound := .inl ⟨rfl, fun _ _ _ _ _ _ us hl => match us, hl with | [_], _ => rfl⟩
theorem b__law_spoilt_words : d__law_spoilt_words.bound := .inl ⟨rfl, fun _ _ _ _ _ _ us hl => match us, hl with | [_, _], _ => rfl⟩
theorem b__law_spoilt_presets : d__law_spoilt_presets.bound := .inl ⟨rfl, fun _ _ _ _ _ _ us hl => match us, hl with | [_, _], _ => rfl⟩
theorem b__law_same : d__law_same.bound := .inl ⟨rfl, fun _ _ _ _ _ _ us hl => match us, hl with | [_, _], _ => rfl⟩
theorem b_law : d_law.bound := .inl ⟨rfl, fun _ _ _ _ _ _ us hl => match us, hl with | [_], _ => rfl⟩
theorem bx_WrongField : x_WrongField.di.bound := .inl ⟨rfl, fun _ _ _ _ _ _ us hl => match us, hl with | [_, _], _ => rfl⟩
theorem bd : ∀ d ∈ tb.tab ++ tb.xs.map XInit.di, d.bound := all_cons b_is_integer (all_cons b_Kind_holds (all_cons b_is_word (all_cons b_read_digits (all_cons b_read_preset (all_cons b_Field___init__ (all_cons b_Field___eq__ (all_cons b_read_field (all_cons b__law_deck (all_cons b__law_draw (all_cons b__law_pick (all_cons b__law_word (all_cons b__law_text (all_cons b__law_value (all_cons b__law_made (all_cons b__law_line (all_cons b__law_row (all_cons b__law_spoilt_words (all_cons b__law_spoilt_presets (all_cons b__law_same (all_cons b_law (all_cons bx_WrongField (all_nil))))))))))))))))))))))
theorem p_is_integer : tb.pgm.fn ("is_integer" : Str) = some F_is_integer := by kernel_rfl
theorem p_Kind_holds : tb.pgm.fn ("Kind.holds" : Str) = some F_Kind_holds := by kernel_rfl
theorem p_is_word : tb.pgm.fn ("is_word" : Str) = some F_is_word := by kernel_rfl
theorem p_read_digits : tb.pgm.fn ("read_digits" : Str) = some F_read_digits := by kernel_rfl
theorem p_read_preset : tb.pgm.fn ("read_preset" : Str) = some F_read_preset := by kernel_rfl
theorem p_Field___init__ : tb.pgm.fn ("Field.__init__" : Str) = some F_Field___init__ := by kernel_rfl
theorem p_Field___eq__ : tb.pgm.fn ("Field.__eq__" : Str) = some F_Field___eq__ := by kernel_rfl
theorem p_read_field : tb.pgm.fn ("read_field" : Str) = some F_read_field := by kernel_rfl
theorem p__law_deck : tb.pgm.fn ("_law_deck" : Str) = some F__law_deck := by kernel_rfl
theorem p__law_draw : tb.pgm.fn ("_law_draw" : Str) = some F__law_draw := by kernel_rfl
theorem p__law_pick : tb.pgm.fn ("_law_pick" : Str) = some F__law_pick := by kernel_rfl
theorem p__law_word : tb.pgm.fn ("_law_word" : Str) = some F__law_word := by kernel_rfl
theorem p__law_text : tb.pgm.fn ("_law_text" : Str) = some F__law_text := by kernel_rfl
theorem p__law_value : tb.pgm.fn ("_law_value" : Str) = some F__law_value := by kernel_rfl
theorem p__law_made : tb.pgm.fn ("_law_made" : Str) = some F__law_made := by kernel_rfl
theorem p__law_line : tb.pgm.fn ("_law_line" : Str) = some F__law_line := by kernel_rfl
theorem p__law_row : tb.pgm.fn ("_law_row" : Str) = some F__law_row := by kernel_rfl
theorem p__law_spoilt_words : tb.pgm.fn ("_law_spoilt_words" : Str) = some F__law_spoilt_words := by kernel_rfl
theorem p__law_spoilt_presets : tb.pgm.fn ("_law_spoilt_presets" : Str) = some F__law_spoilt_presets := by kernel_rfl
theorem p__law_same : tb.pgm.fn ("_law_same" : Str) = some F__law_same := by kernel_rfl
theorem p_law : tb.pgm.fn ("law" : Str) = some F_law := by kernel_rfl
theorem g_MOST_CHARACTERS : tb.pgm.glob ("MOST_CHARACTERS" : Str) = some (.int 60) := by kernel_rfl
theorem g_TOP : tb.pgm.glob ("TOP" : Str) = some (.int 1000000000000000000) := by kernel_rfl
theorem g_LETTERS : tb.pgm.glob ("LETTERS" : Str) = some (.str ("abcdefghijklmnopqrstuvwxyz" : Str)) := by kernel_rfl
theorem g_FIGURES : tb.pgm.glob ("FIGURES" : Str) = some (.str ("0123456789" : Str)) := by kernel_rfl
theorem g_GREATEST_NUMBER : tb.pgm.glob ("GREATEST_NUMBER" : Str) = some (.int 999999) := by kernel_rfl
theorem c_Kind_TEXT : tb.pgm.cat ("Kind" : Str) ("TEXT" : Str) = some (.str ("text" : Str)) := by kernel_rfl
theorem c_Kind_SMALL : tb.pgm.cat ("Kind" : Str) ("SMALL" : Str) = some (.str ("small" : Str)) := by kernel_rfl
theorem c_Kind_WHOLE : tb.pgm.cat ("Kind" : Str) ("WHOLE" : Str) = some (.str ("whole" : Str)) := by kernel_rfl
theorem c_Kind_ALL : tb.pgm.cat ("Kind" : Str) ("ALL" : Str) = some (.tup [.str ("small" : Str), .str ("whole" : Str), .str ("signed" : Str), .str ("text" : Str)]) := by kernel_rfl
theorem a_Field_number : tb.pgm.att ("Field" : Str) ("number" : Str) = .fld := by kernel_rfl
theorem a_Field_name : tb.pgm.att ("Field" : Str) ("name" : Str) = .fld := by kernel_rfl
theorem a_Field_kind : tb.pgm.att ("Field" : Str) ("kind" : Str) = .fld := by kernel_rfl
theorem a_Field_preset : tb.pgm.att ("Field" : Str) ("preset" : Str) = .fld := by kernel_rfl
theorem mk_Field : tb.pgm.isC ("Field" : Str) = true := by kernel_rfl
theorem ki_Field_int : tb.pgm.kI ("Field" : Str) .int = some false := by kernel_rfl
theorem ki_Field_str : tb.pgm.kI ("Field" : Str) .str = some false := by kernel_rfl
theorem ki_Field_bool : tb.pgm.kI ("Field" : Str) .bool = some false := by kernel_rfl
theorem ki_Field_list : tb.pgm.kI ("Field" : Str) .list = some false := by kernel_rfl
theorem ki_Field_tuple : tb.pgm.kI ("Field" : Str) .tuple = some false := by kernel_rfl
theorem ki_Field_dict : tb.pgm.kI ("Field" : Str) .dict = some false := by kernel_rfl
theorem kb_NoneType_Field : tb.pgm.kB "NoneType" ("Field" : Str) = some false := by kernel_rfl
theorem kb_bool_Field : tb.pgm.kB "bool" ("Field" : Str) = some false := by kernel_rfl
theorem kb_int_Field : tb.pgm.kB "int" ("Field" : Str) = some false := by kernel_rfl
theorem kb_str_Field : tb.pgm.kB "str" ("Field" : Str) = some false := by kernel_rfl
theorem kb_tuple_Field : tb.pgm.kB "tuple" ("Field" : Str) = some false := by kernel_rfl
theorem kb_list_Field : tb.pgm.kB "list" ("Field" : Str) = some false := by kernel_rfl
theorem kb_dict_Field : tb.pgm.kB "dict" ("Field" : Str) = some false := by kernel_rfl
theorem ko_Field_Field : tb.pgm.kO ("Field" : Str) ("Field" : Str) = some true := by kernel_rfl
theorem xc_WrongField : tb.pgm.xc ("WrongField" : Str) = some x_WrongField.xi := by kernel_rfl
theorem kx_WrongField_WrongField : tb.pgm.kX ("WrongField" : Str) ("WrongField" : Str) = some true := by kernel_rfl
theorem kn_WrongField : tb.pgm.kN ("WrongField" : Str) = true := by kernel_rfl
theorem ke_Field : tb.pgm.kE ("Field" : Str) = true := by kernel_rfl
theorem me_Field___init__ : tb.pgm.isM ("Field" : Str) ("__init__" : Str) = true := by kernel_rfl
theorem me_Field___eq__ : tb.pgm.isM ("Field" : Str) ("__eq__" : Str) = true := by kernel_rfl
theorem kc_Field : tb.pgm.kC ("Field" : Str) = true := by kernel_rfl
def names0 : List PySem.Str := [("_wall" : PySem.Str), ("EditionsError" : PySem.Str), ("WrongField" : PySem.Str), ("TOP" : PySem.Str), ("MOST_CHARACTERS" : PySem.Str), ("is_integer" : PySem.Str), ("Kind" : PySem.Str), ("GREATEST_NUMBER" : PySem.Str), ("LETTERS" : PySem.Str), ("FIGURES" : PySem.Str), ("is_word" : PySem.Str), ("read_digits" : PySem.Str), ("read_preset" : PySem.Str), ("Field" : PySem.Str), ("read_field" : PySem.Str), ("_law_deck" : PySem.Str), ("_law_draw" : PySem.Str), ("_law_pick" : PySem.Str), ("_law_word" : PySem.Str), ("_law_text" : PySem.Str), ("_law_value" : PySem.Str), ("_law_made" : PySem.Str), ("_law_line" : PySem.Str), ("_law_row" : PySem.Str), ("_law_spoilt_words" : PySem.Str), ("_law_spoilt_presets" : PySem.Str), ("_law_same" : PySem.Str)]
def names : List PySem.Str := names0
abbrev hk : PySem.W.Hook := hookI 5 tb
def ob (s : PySem.W.SharedT) : AlI := obsIG 5 tb (HandSHeadRun.getT s)
theorem ob_eq (s : PySem.W.SharedT) : ob s = hk.obs s.abs := obsIG_eq (HandSHeadRun.getT_eq s)
theorem run (w : World) : HandSHeadRun.RunEq R (PySem.W.view R.prog [31]) hk ob 30000 names w := by
  intro os
  kernel_rfl
end My

set_option Elab.async false
set_option linter.all false
set_option maxRecDepth 100000
set_option maxHeartbeats 1000000
namespace My
open PySem PyProof.Rows I3
theorem deck {P : Pgm} (hP : P.fn "_law_deck" = some F__law_deck) {n : Nat} {ns : List Int} {i : Nat} {κ : Store} {Q : D → Store → Prop} (hi : i ≤ 1000)
    (h : ∀ d, DeckAt (κ ++ [d]) κ.length 0 → Q (.cell κ.length) (κ ++ [d])) : wp (I3.run P (n + 1) "_law_deck" [.lst (ns.map D.int), .int i] κ) Q := by
  refine wp_def [some (.lst (ns.map D.int)), some (.int i), none] .keep _ hP rfl rfl rfl rfl ?_
  have key : ∀ c : Int, wp (evSs (P.gam n) (F__law_deck.body.drop 1) [some (D.lst (ns.map D.int)), some (D.int i), some (D.int c)] κ) fun fl κ' => wp (endD κ.length .keep fl κ') Q := by
    intro c
    refine ss_ret' ?_
    have fin : ∀ a : Int, 0 ≤ a → Q (.cell κ.length) (κ ++ [.lst [.int a, .int (c % 2305843009213693951), .int i, .int 0]]) := fun a ha => by
      exact h _ ⟨a, c % 2305843009213693951, i, 0, by simp [deckD], ha, ⟨Int.emod_nonneg _ (by decide), Int.emod_lt_of_pos _ (by decide)⟩, ⟨by omega, by omega⟩, by omega, by omega⟩
    simp [o_pow, o_mod]
    repeat' split
    all_goals exact fin _ (by omega)
  refine ss_asg' ?_
  simp
  split
  · rename_i hlt
    rw [o_subL (at_nat (d := .int ns[i]) (by simp [hlt]))]
    try rw [o_int]
    exact key _
  · exact key 0
theorem draw {P : Pgm} (hP : P.fn "_law_draw" = some F__law_draw) {n j m : Nat} {many : Int} {κ : Store} {Q : D → Store → Prop} (hd : DeckAt κ j m) (hm : m < 100000000) (h0 : 0 < many ∧ many < big)
    (h : ∀ (r : Int) κ', 0 ≤ r → r < many → Drawn κ j (m + 1) κ' → Q (.int r) κ') : wp (I3.run P (n + 1) "_law_draw" [.cell j, .int many] κ) Q := by
  obtain ⟨a, b, i, k, hj, ha, ⟨hb1, hb2⟩, ⟨hi1, hi2⟩, hk1, hk2⟩ := hd
  have hj2 : j < κ.length := (List.getElem?_eq_some_iff.mp hj).1
  have mk : ∀ (x : Int) (a' k' : Int), 0 ≤ a' → 0 ≤ k' → k' ≤ m + 1 → Q (.int (x % many)) (κ.set j (deckD a' b i k')) := fun x a' k' h1 h2 h3 => by
    refine h _ _ (Int.emod_nonneg _ (by omega)) (Int.emod_lt_of_pos _ h0.1) ⟨⟨a', b, i, k', ?_, h1, ⟨hb1, hb2⟩, ⟨hi1, hi2⟩, h2, by omega⟩, _, rfl⟩
    rw [List.getElem?_set_self hj2]
  refine wp_def [some (.cell j), some (.int many), none, none] .keep _ hP rfl rfl rfl rfl ?_
  refine ss_if' ?_
  have g0 : ∀ (Q : D → Store → Prop), wp (opSub (.cell j) (.int 0) κ) Q = Q (.int a) κ := fun Q => o_subC hj rfl
  have g1 : ∀ (Q : D → Store → Prop), wp (opSub (.cell j) (.int 1) (κ.set j (deckD a b i (k + 1)))) Q = Q (.int b) (κ.set j (deckD a b i (k + 1))) := fun Q => o_subC (List.getElem?_set_self hj2) rfl
  have g2 : ∀ (Q : D → Store → Prop), wp (opSub (.cell j) (.int 2) (κ.set j (deckD a b i (k + 1)))) Q = Q (.int i) (κ.set j (deckD a b i (k + 1))) := fun Q => o_subC (List.getElem?_set_self hj2) rfl
  have g3 : ∀ (Q : D → Store → Prop), wp (opSub (.cell j) (.int 3) (κ.set j (deckD a b i (k + 1)))) Q = Q (.int (k + 1)) (κ.set j (deckD a b i (k + 1))) := fun Q => o_subC (List.getElem?_set_self hj2) rfl
  have g4 : ∀ (Q : D → Store → Prop), wp (opSub (.cell j) (.int 3) κ) Q = Q (.int k) κ := fun Q => o_subC hj rfl
  simp [g0]
  by_cases hc : 0 < a
  · rw [if_pos hc]
    refine ss_asg' ?_
    simp [g0, o_mod h0.1]
    refine ss_setI' ?_
    simp [g0, o_div h0]
    rw [o_setI (k := 0) hj rfl]
    refine ss_ret' ?_
    simp
    exact mk _ _ _ (Int.ediv_nonneg ha (by omega)) hk1 (by omega)
  · rw [if_neg hc]
    refine ss_nil' ?_
    refine ss_setI' ?_
    simp [g4]
    rw [o_setI (k := 3) hj rfl]
    show wp (evSs _ _ _ (κ.set j (deckD a b i (k + 1)))) _
    refine ss_if' ?_
    simp [g1, eqS]
    by_cases hz : b = 0
    · rw [if_pos hz]
      refine ss_ret' ?_
      simp [g2, g3, o_mod h0.1]
      exact mk _ _ _ ha (by omega) (by omega)
    · rw [if_neg hz]
      refine ss_nil' ?_
      refine ss_asg' ?_
      have r1 : -big < (7368787 : Int) ∧ (7368787 : Int) < big := by unfold big; omega
      have r2 : -big < k + 1 ∧ k + 1 < big := by unfold big; omega
      have r3 : -big < (104729 : Int) ∧ (104729 : Int) < big := by unfold big; omega
      have r4 : -big < i ∧ i < big := by unfold big; omega
      have r5 : -big < (15485863 : Int) ∧ (15485863 : Int) < big := by unfold big; omega
      have p1 : (0 : Int) ≤ 3 ∧ (3 : Int) ≤ 100 := by omega
      have p2 : (0 : Int) ≤ 2 ∧ (2 : Int) ≤ 100 := by omega
      have q1 : -18446744073709551616 < b + 7368787 * (k + 1) + 104729 * i ∧ b + 7368787 * (k + 1) + 104729 * i < 18446744073709551616 := by omega
      simp [g1, g2, g3, o_mul r1 r2, o_mul r3 r4, o_pow p1 q1, o_mod]
      refine ss_asg' ?_
      generalize hx : (b + 7368787 * (k + 1) + 104729 * i) ^ 3 % 2305843009213693951 = x
      have hx1 : 0 ≤ x ∧ x < 2305843009213693951 := by
        rw [← hx]
        exact ⟨Int.emod_nonneg _ (by decide), Int.emod_lt_of_pos _ (by decide)⟩
      have q2 : -18446744073709551616 < x + 15485863 * (k + 1) + 611953 ∧ x + 15485863 * (k + 1) + 611953 < 18446744073709551616 := by omega
      simp [g3, o_mul r5 r2, o_pow p2 q2, o_mod]
      refine ss_ret' ?_
      have r6 : (0 : Int) < 4093 ∧ (4093 : Int) < big := by unfold big; omega
      simp [o_div r6, o_mod h0.1]
      exact mk _ _ _ ha (by omega) (by omega)

end My

set_option Elab.async false
set_option linter.all false
set_option maxRecDepth 100000
set_option maxHeartbeats 1000000
namespace My
open PySem PyProof.Rows I3
/-- what may be handed in -/
inductive Good : D → Prop where
  | int (v : Int) : Good (.int v)
  | str (s : Str) (h : s.length ≤ 1000) : Good (.str s)
  | bl (b : Bool) : Good (.bl b)
  | non : Good .non
  | lst (xs : List D) (h : ∀ n, closedL n xs = true) : Good (.lst xs)
  | tup (xs : List D) (h : ∀ n, closedL n xs = true) : Good (.tup xs)
theorem Good.closed {d : D} (h : Good d) (n : Nat) : I3.closed n d = true := by
  cases h with
  | lst xs h => unfold I3.closed; exact h n
  | tup xs h => unfold I3.closed; exact h n
  | _ => rfl
def letS : Str := "abcdefghijklmnopqrstuvwxyz"
def numB : D → Bool
  | .int n => decide (1 ≤ n ∧ n ≤ 999999)
  | _ => false
def wordOk (z : Str) : Bool := decide (1 ≤ z.length ∧ z.length ≤ 12) && z.cps.toList.all fun c => decide (c ∈ letS.cps.toList)
def wordB : D → Bool
  | .str z => wordOk z
  | _ => false
def kindB : D → Bool
  | .str z => z == "small" || z == "whole" || z == "signed" || z == "text"
  | _ => false
/-- one of the kinds -/
def kindS (k : String) : Prop := k = "small" ∨ k = "whole" ∨ k = "signed" ∨ k = "text"
/-- the answer of holds -/
def dueB (k : String) : D → Bool
  | .int v => if k = "text" then false else if k = "small" then decide (0 ≤ v ∧ v ≤ 255) else if k = "whole" then decide (0 ≤ v ∧ v ≤ 1000000000000000000) else decide (-1000000000000000000 ≤ v ∧ v ≤ 1000000000000000000)
  | .str s => decide (k = "text" ∧ s.length ≤ 60)
  | _ => false
def presB (k : String) (d : D) : Bool := isNonD d || dueB k d
section
variable {n : Nat} {κ : Store}
theorem isint_n {x : D} (h : Good x) : I3.run tb.pgm (n + 1) "is_integer" [x] κ = .ok (.bl (match x with | .int _ => true | _ => false)) κ := by
  refine wp_eq (wp_def [some x] .keep _ p_is_integer rfl rfl rfl rfl (ss_ret' ?_))
  cases h <;> simp
theorem holds_ok {x : D} {k : String} (hk : kindS k) (h : Good x) : I3.run tb.pgm (n + 2) "Kind.holds" [.str k, x] κ = .ok (.bl (dueB k x)) κ := by
  refine wp_eq (wp_def [some (.str k), some x] .keep _ p_Kind_holds rfl rfl rfl rfl (ss_if' ?_))
  rcases hk with rfl | rfl | rfl | rfl
  · simp [c_Kind_TEXT, eqS, ofString_inj]
    refine ss_nil' ?_
    refine ss_if' ?_
    simp [isint_n h]
    cases h with
    | int v =>
      simp
      refine ss_nil' ?_
      refine ss_if' ?_
      simp [c_Kind_SMALL, eqS, ofString_inj]
      refine ss_ret' ?_
      by_cases h1 : 0 ≤ v <;> by_cases h2 : v ≤ 255 <;> simp [h1, h2, dueB]
    | _ => simp; refine ss_ret' ?_; simp [dueB]
  · simp [c_Kind_TEXT, eqS, ofString_inj]
    refine ss_nil' ?_
    refine ss_if' ?_
    simp [isint_n h]
    cases h with
    | int v =>
      simp
      refine ss_nil' ?_
      refine ss_if' ?_
      simp [c_Kind_SMALL, eqS, ofString_inj]
      refine ss_nil' ?_
      refine ss_if' ?_
      simp [c_Kind_WHOLE, eqS, ofString_inj]
      refine ss_ret' ?_
      by_cases h1 : 0 ≤ v <;> by_cases h2 : v ≤ 1000000000000000000 <;> simp [h1, h2, dueB, g_TOP]
    | _ => simp; refine ss_ret' ?_; simp [dueB]
  · simp [c_Kind_TEXT, eqS, ofString_inj]
    refine ss_nil' ?_
    refine ss_if' ?_
    simp [isint_n h]
    cases h with
    | int v =>
      simp
      refine ss_nil' ?_
      refine ss_if' ?_
      simp [c_Kind_SMALL, eqS, ofString_inj]
      refine ss_nil' ?_
      refine ss_if' ?_
      simp [c_Kind_WHOLE, eqS, ofString_inj]
      refine ss_nil' ?_
      refine ss_ret' ?_
      by_cases h1 : -1000000000000000000 ≤ v <;> by_cases h2 : v ≤ 1000000000000000000 <;> simp [h1, h2, dueB, g_TOP]
    | _ => simp; refine ss_ret' ?_; simp [dueB]
  · simp [c_Kind_TEXT, eqS, ofString_inj]
    refine ss_ret' ?_
    cases h with
    | str s hs =>
      simp [o_lenS (z := s) (by omega), g_MOST_CHARACTERS, dueB]
      try omega
    | _ => simp [dueB]
theorem isword_n {x : D} (h : Good x) : I3.run tb.pgm (n + 1) "is_word" [x] κ = .ok (.bl (wordB x)) κ := by
  refine wp_eq (wp_def [some x, none] .keep _ p_is_word rfl rfl rfl rfl (ss_if' ?_))
  cases h with
  | str z hz =>
    by_cases h1 : 1 ≤ z.length
    · by_cases h2 : z.length ≤ 12
      · have h1' : (1 : Int) ≤ (z.length : Int) := by omega
        have h2' : (z.length : Int) ≤ 12 := by omega
        simp [o_lenS (z := z) (by omega), h1', h2']
        refine ss_nil' ?_
        refine ss_ret' ?_
        simp
        have hsz : (signsD z).length ≤ 16777216 := by
          unfold signsD
          rw [List.length_map, Array.length_toList]
          have : z.cps.size ≤ 12 := h2
          omega
        refine wp_if hsz ?_
        refine wp_compM (fun d => match d with | .str z => .bl (z.cps.toList.all fun c => decide (c ∈ letS.cps.toList)) | d => d) (fun d hd => ?_) ?_
        · obtain ⟨c, hc, rfl⟩ := signs_mem hd
          simp [cstep, bindT, wipeE, g_LETTERS, letS]
        · have e : (signsD z).map (fun d => match d with | .str z => .bl (z.cps.toList.all fun c => decide (c ∈ letS.cps.toList)) | d => d) = z.cps.toList.map fun c => D.bl (decide (c ∈ letS.cps.toList)) := by
            unfold signsD
            rw [List.map_map]
            refine List.map_congr_left fun c _ => ?_
            simp
          rw [e, o_all (asBools_map (g := fun c => decide (c ∈ letS.cps.toList)))]
          simp [wordB, wordOk, h1, h2, List.all_map]
      · have h1' : (1 : Int) ≤ (z.length : Int) := by omega
        have h2' : ¬ (z.length : Int) ≤ 12 := by omega
        simp [o_lenS (z := z) (by omega), h1', h2']
        refine ss_ret' ?_
        simp [wordB, wordOk, h2]
    · have h1' : ¬ (1 : Int) ≤ (z.length : Int) := by omega
      simp [o_lenS (z := z) (by omega), h1']
      refine ss_ret' ?_
      simp [wordB, wordOk, h1]
  | _ => simp; refine ss_ret' ?_; simp [wordB]
/-- the attributes of a field -/
def fieldF (num name kind p : D) : List (Str × D) := [("number", num), ("name", name), ("kind", kind), ("preset", p)]
/-- the first wrong part -/
def firstW (w0 w1 w2 w3 : Bool) : Option String := if w0 then some "number" else if w1 then some "name" else if w2 then some "kind" else if w3 then some "preset" else none
def initR (w : Option String) (κ : Store) (fs : List (Str × D)) : Res D := match w with
  | some s => .exc "WrongField" [("what", .str s)] (κ ++ [.ins "Field" []])
  | none => .ok .non (κ ++ [.ins "Field" fs])
theorem in_all {x : D} (h : Good x) : ∀ z, x = .str z → inList x [.str "small", .str "whole", .str "signed", .str "text"] = some (kindB x) := by
  rintro z rfl
  simp [inList, flatD, eqFl, kindB, Bool.beq_comm]
  rw [Bool.beq_comm (a := z)]
  cases (z == Str.ofString "small") <;> simp [Bool.or_assoc, BEq.comm]
theorem kind_of {x : D} (h : kindB x = true) : ∃ k, kindS k ∧ x = .str (Str.ofString k) := by
  cases x <;> (first | (cases h; done) | skip)
  rename_i z
  simp [kindB] at h
  rcases h with ((h | h) | h) | h
  · exact ⟨_, .inl rfl, by rw [h]⟩
  · exact ⟨_, .inr (.inl rfl), by rw [h]⟩
  · exact ⟨_, .inr (.inr (.inl rfl)), by rw [h]⟩
  · exact ⟨_, .inr (.inr (.inr rfl)), by rw [h]⟩
end

end My

set_option Elab.async false
set_option linter.all false
set_option maxRecDepth 100000
set_option maxHeartbeats 1000000
namespace My
open PySem PyProof.Rows I3
section
variable {n : Nat} {κ : Store} {num name kind p : D}
theorem xi_ok (w : String) (h : (Str.ofString w).length ≤ 100) : x_WrongField.xi.ok [.str w] = true := by
  have e : Pt.ok [.str w] x_WrongField.xi.pt 0 = decide (0 + (Str.ofString "wrong field: ").length + (Str.ofString w).length ≤ 16777216) := rfl
  have l : (Str.ofString "wrong field: ").length = 13 := by decide +kernel
  unfold XI.ok
  rw [e, l]
  have : (decide (0 + 13 + (Str.ofString w).length ≤ 16777216)) = true := decide_eq_true (by omega)
  rw [this]
  first | rfl | exact wp_rfl rfl
/-- what __init__ does -/
theorem init_any (h0 : Good num) (h1 : Good name) (h2 : Good kind) (h3 : Good p) (k : String) (hk : kindS k) (hkk : kindB kind = true → kind = .str k) :
    I3.run tb.pgm (n + 3) "Field.__init__" [.cell κ.length, num, name, kind, p] (κ ++ [.ins "Field" []]) = initR (firstW (!numB num) (!wordB name) (!kindB kind) (!presB k p)) κ (fieldF num name kind p) := by
  refine run_end [some (.cell κ.length), some num, some name, some kind, some p] .keep _ p_Field___init__ rfl rfl rfl rfl (ss_if' ?_)
  have rz : ∀ (w : String), (Str.ofString w).length ≤ 100 → ∀ (QQ : I3.Flow → Store → Prop), QQ (.exc "WrongField" [("what", .str w)] [some (.cell κ.length), some num, some name, some kind, some p]) (κ ++ [D.ins "Field" []]) →
      wp (evSs (tb.pgm.gam (n + 2)) [.raise ("WrongField" : Str) [.str w]] [some (.cell κ.length), some num, some name, some kind, some p] (κ ++ [D.ins "Field" []])) QQ := fun w hw QQ hq => by
    refine ss_raise' (xi := x_WrongField.xi) xc_WrongField ?_
    simp only [w_cons, w_str, w_nil]
    exact ⟨xi_ok w hw, hq⟩
  have ee : ∀ (w : String) (ρ : Env'), endD (κ ++ [D.ins "Field" []]).length .keep (.exc "WrongField" [("what", .str w)] ρ) (κ ++ [D.ins "Field" []]) = initR (some w) κ (fieldF num name kind p) := fun w ρ => e_exc rfl
  have ee2 : ∀ (w : String) (ρ : Env'), endD (κ.length + 1) .keep (.exc "WrongField" [("what", .str w)] ρ) (κ ++ [D.ins "Field" []]) = initR (some w) κ (fieldF num name kind p) := fun w ρ => e_exc (by simp)
  -- number
  have t0 : wp (evT (tb.pgm.gam (n + 2)) (.or (.not (.e (.call ("is_integer" : Str) [.var 1]))) (.one (.not (.cmp2 .le .le (.int 1) (.var 1) (.glob ("GREATEST_NUMBER" : Str)))))) [some (.cell κ.length), some num, some name, some kind, some p] (κ ++ [D.ins "Field" []])) fun t κ' => t = !numB num ∧ κ' = κ ++ [D.ins "Field" []] := by
    simp [isint_n h0]
    cases h0 with
    | int v => by_cases a1 : 1 ≤ v <;> by_cases a2 : v ≤ 999999 <;> simp [a1, a2, numB, g_GREATEST_NUMBER]
    | _ => simp [numB]
  refine wp_mono t0 fun t κ1 ⟨e1, e2⟩ => ?_
  subst e1 e2
  cases n0 : numB num with
  | false =>
    simp only [Bool.not_false, if_true]
    refine rz "number" (by decide +kernel) _ ?_
    exact ee "number" _
  | true =>
  simp only [Bool.not_true, Bool.false_eq_true, if_false]
  refine ss_nil' ?_
  refine ss_if' ?_
  simp [isword_n h1]
  cases n1 : wordB name with
  | false =>
    simp only [if_true, Bool.false_eq_true, if_false]
    refine rz "name" (by decide +kernel) _ ?_
    exact ee2 "name" _
  | true =>
  simp only [if_true]
  refine ss_nil' ?_
  refine ss_if' ?_
  have t2 : wp (evT (tb.pgm.gam (n + 2)) (.or (.not (.e (.isin (.var 3) .str))) (.one (.cmp .ntn (.var 3) (.cat ("Kind" : Str) ("ALL" : Str))))) [some (.cell κ.length), some num, some name, some kind, some p] (κ ++ [D.ins "Field" []])) fun t κ' => t = !kindB kind ∧ κ' = κ ++ [D.ins "Field" []] := by
    cases h2 with
    | str z hz =>
      have := in_all (Good.str z hz) z rfl
      simp [c_Kind_ALL, this]
    | _ => simp [kindB]
  refine wp_mono t2 fun t κ1 ⟨e1, e2⟩ => ?_
  subst e1 e2
  cases n2 : kindB kind with
  | false =>
    simp only [Bool.not_false, if_true]
    refine rz "kind" (by decide +kernel) _ ?_
    exact ee2 "kind" _
  | true =>
  simp only [Bool.not_true, Bool.false_eq_true, if_false]
  obtain rfl := hkk n2
  refine ss_nil' ?_
  refine ss_if' ?_
  have t3 : wp (evT (tb.pgm.gam (n + 2)) (.and (.cmp .notn (.var 4) .non) (.one (.not (.e (.scall ("Kind" : Str) ("holds" : Str) [.var 3, .var 4]))))) [some (.cell κ.length), some num, some name, some (.str k), some p] (κ ++ [D.ins "Field" []])) fun t κ' => t = !presB k p ∧ κ' = κ ++ [D.ins "Field" []] := by
    simp [ofString_app, holds_ok hk h3, presB]
    cases isNonD p <;> simp
  refine wp_mono t3 fun t κ1 ⟨e1, e2⟩ => ?_
  subst e1 e2
  cases n3 : presB k p with
  | false =>
    simp only [Bool.not_false, if_true]
    refine rz "preset" (by decide +kernel) _ ?_
    exact e_exc (by simp)
  | true =>
  simp only [Bool.not_true, Bool.false_eq_true, if_false]
  refine ss_nil' ?_
  refine ss_setA' ?_
  simp
  rw [o_setN (by simp [a_Field_number, AttK.isF]) (by simp)]
  refine ss_setA' ?_
  simp
  rw [o_setN (by simp [a_Field_name, AttK.isF]) (by simp [putD, ofString_inj])]
  refine ss_setA' ?_
  simp
  rw [o_setN (by simp [a_Field_kind, AttK.isF]) (by simp [putD, ofString_inj])]
  refine ss_setA' ?_
  simp
  rw [o_setN (by simp [a_Field_preset, AttK.isF]) (by simp [putD, ofString_inj])]
  refine ss_nil' ?_
  simp [putD, fieldF, ofString_inj, firstW, initR]
  first | rfl | exact wp_rfl rfl
end

end My

set_option Elab.async false
set_option linter.all false
set_option maxRecDepth 100000
set_option maxHeartbeats 1000000
namespace My
open PySem PyProof.Rows I3
theorem sl_list (z : Str) (k : Nat) : (Txt.slice z none (some (k : Int))).cps.toList = z.cps.toList.take k := by
  have e : Txt.slice z none (some (k : Int)) = L2.cutS z none (some (k : Int)) := L2.sliceText_cut z none (some (k : Int))
  rw [e]
  show (((z.cps.toList.drop (HT.sIx z.length 0 none)).take (HT.sIx z.length z.length (some (k : Int)) - HT.sIx z.length 0 none)).toArray).toList = _
  rw [List.toList_toArray]
  have e0 : HT.sIx z.length 0 none = 0 := rfl
  rw [e0, List.drop_zero, Nat.sub_zero]
  have e1 : HT.sIx z.length z.length (some (k : Int)) = min k z.length := by
    unfold HT.sIx
    simp
    omega
  rw [e1, List.take_eq_take_iff]
  show min (min k z.length) z.cps.toList.length = min k z.cps.toList.length
  rw [Array.length_toList]
  show min (min k z.cps.size) z.cps.size = _
  omega
/-- texts of single signs, joined -/
theorem join_signs : ∀ cs : List Nat, Txt.join (Str.ofString "") (cs.map fun c => (⟨#[c]⟩ : Str)) = ⟨cs.toArray⟩ := by
  intro cs
  show (Builtin.Str.glued (Str.ofString "") (cs.map fun c => (⟨#[c]⟩ : Str))) = _
  rw [StrLaws.glued_eq_join]
  induction cs with
  | nil => rfl
  | cons c r ih =>
    cases r with
    | nil => rfl
    | cons d r =>
      show (⟨#[c]⟩ : Str) ++ Str.ofString "" ++ Str.join (Str.ofString "") ((d :: r).map fun c => (⟨#[c]⟩ : Str)) = _
      rw [ih]
      show Str.mk (#[c] ++ (Str.ofString "").cps ++ (d :: r).toArray) = _
      have e : (Str.ofString "").cps = #[] := by decide +kernel
      rw [e]
      simp

end My

set_option Elab.async false
set_option linter.all false
set_option maxRecDepth 100000
set_option maxHeartbeats 1000000
namespace My
open PySem PyProof.Rows I3
section
variable {n j m : Nat} {κ : Store} {Q : D → Store → Prop}
theorem pick {xs : List D} {P : D → Prop} (hP : ∀ x ∈ xs, P x) (hd : DeckAt κ j m) (hm : m < 100000000) (hx : 0 < xs.length ∧ xs.length < 1000000) (h : ∀ x κ', P x → Drawn κ j (m + 1) κ' → Q x κ') : wp (I3.run tb.pgm (n + 2) "_law_pick" [.cell j, .lst xs] κ) Q := by
  refine wp_def [some (.cell j), some (.lst xs)] .keep _ p__law_pick rfl rfl rfl rfl (ss_ret' ?_)
  simp
  refine draw p__law_draw hd hm ⟨by omega, by unfold big; omega⟩ fun r κ' h0 h1 dr => ?_
  obtain ⟨d, e, hm⟩ := at_mem (xs := xs) h0 h1
  rw [o_subL e]
  exact h d κ' (hP d hm) dr
theorem pickS {z : Str} (hd : DeckAt κ j m) (hm : m < 100000000) (hx : 0 < z.length ∧ z.length < 1000000) (h : ∀ c ∈ z.cps.toList, ∀ κ', Drawn κ j (m + 1) κ' → Q (.str ⟨#[c]⟩) κ') : wp (I3.run tb.pgm (n + 2) "_law_pick" [.cell j, .str z] κ) Q := by
  refine wp_def [some (.cell j), some (.str z)] .keep _ p__law_pick rfl rfl rfl rfl (ss_ret' ?_)
  simp [o_lenS (z := z) (by omega)]
  refine draw p__law_draw hd hm ⟨by omega, by unfold big; omega⟩ fun r κ' h0 h1 dr => ?_
  exact o_subSm (by omega) h0 h1 fun c hc => h c hc κ' dr
theorem ones_sum : ∀ cs : List Nat, ((cs.map fun c => (⟨#[c]⟩ : Str)).map (·.length)).sum = cs.length
  | [] => rfl
  | c :: cs => by
    simp only [List.map_cons, List.sum_cons, List.length_cons]
    rw [ones_sum cs]
    show 1 + cs.length = _
    omega
/-- signs drawn from a text, joined -/
theorem signs_ok {z : Str} {k m : Nat} {κ : Store} {ρ : Env'} {t : Nat} {own : List Nat} {Q : D → Store → Prop} (h0 : ρ[0]? = some (some (.cell j))) (hw : ∀ d, (wipeE ρ own)[0]? = some (some (.cell j)) ∧ ((wipeE ρ own).set t (some d))[0]? = some (some (.cell j))) (hz : 0 < z.length ∧ z.length < 1000000) (hk : k ≤ 1000) (hd : DeckAt κ j m) (hm : m < 50000000)
    (h : ∀ (cs : List Nat) (κ' : Store), cs.length = k → (∀ c ∈ cs, c ∈ z.cps.toList) → Drawn κ j (m + k) κ' → Q (.lst (cs.map fun c => D.str ⟨#[c]⟩)) κ') :
    wp (compL (.fix (rangeD 0 k)) (cstep (tb.pgm.gam (n + 2)) (.nm t) own [] (.call ("_law_pick" : Str) [.var 0, .str z]) ρ) (rangeD 0 k).length [] κ) fun ds κ' => Q (.lst ds) κ' := by
  refine wp_comp (fun i acc κ' => (∃ cs : List Nat, acc = cs.map (fun c => D.str ⟨#[c]⟩) ∧ (∀ c ∈ cs, c ∈ z.cps.toList) ∧ cs.length = i) ∧ Drawn κ j (m + i) κ') ⟨⟨[], rfl, by simp, rfl⟩, Drawn.refl hd⟩ (fun i d acc κ' hi ⟨⟨cs, e1, e2, e3⟩, dr⟩ => ?_) (fun acc κ' ⟨⟨cs, e1, e2, e3⟩, dr⟩ => ?_)
  · obtain ⟨hi, rfl⟩ := rangeD_get hi
    simp [cstep, bindT, (hw _).2]
    refine pickS dr.1 (by omega) hz fun c hc κ2 d2 => ?_
    refine ⟨⟨cs ++ [c], by rw [e1]; simp, ?_, by simp [e3]⟩, dr.trans d2⟩
    have hm : ∀ y ∈ cs ++ [c], y ∈ z.cps.toList := fun y hy => by
      rcases List.mem_append.mp hy with hy | hy
      · exact e2 y hy
      · rw [List.mem_singleton.mp hy]; exact hc
    simpa using hm
  · rw [rangeD_len] at e3 dr
    rw [e1]
    exact h cs κ' e3 e2 dr
theorem join_ok {cs : List Nat} {κ : Store} {Q : D → Store → Prop} (hl : cs.length ≤ 1000) (h : Q (.str ⟨cs.toArray⟩) κ) : wp (opJoin (.str "") (.lst (cs.map fun c => D.str ⟨#[c]⟩)) κ) Q := by
  have e : (cs.map fun c => D.str ⟨#[c]⟩) = (cs.map fun c => (⟨#[c]⟩ : Str)).map D.str := by rw [List.map_map]; rfl
  have l0 : (Str.ofString "").length = 0 := by decide +kernel
  rw [e, o_join (by rw [ones_sum, l0]; omega), join_signs]
  exact h
theorem word_ok (hd : DeckAt κ j m) (hm : m < 10000000) (h : ∀ z κ', wordOk z = true → Drawn κ j (m + 20) κ' → Q (.str z) κ') : wp (I3.run tb.pgm (n + 3) "_law_word" [.cell j] κ) Q := by
  refine wp_def [some (.cell j), none] .keep _ p__law_word rfl rfl rfl rfl (ss_ret' ?_)
  simp
  refine draw p__law_draw hd (by omega) ⟨by omega, by unfold big; omega⟩ fun r κ1 h0 h1 d1 => ?_
  simp
  rw [if_pos ⟨by omega, by omega⟩]
  simp
  have hN : ∃ N : Nat, (1 + r).toNat = N ∧ 1 ≤ N ∧ N ≤ 12 := ⟨_, rfl, by omega, by omega⟩
  obtain ⟨N, eN, n1, n2⟩ := hN
  rw [eN]
  refine wp_if (by rw [rangeD_len]; omega) ?_
  have hz : 0 < letS.length ∧ letS.length < 1000000 := by
    have e : letS.length = 26 := by decide +kernel
    rw [e]
    omega
  have hw : ∀ d, (wipeE [some (D.cell j), none] [1])[0]? = some (some (.cell j)) ∧ ((wipeE [some (D.cell j), none] [1]).set 1 (some d))[0]? = some (some (.cell j)) := fun d => ⟨rfl, rfl⟩
  have hk : N ≤ 1000 := by omega
  have hm1 : m + 1 < 50000000 := by omega
  refine signs_ok (z := letS) (k := N) (t := 1) (ρ := [some (.cell j), none]) (own := [1]) rfl hw hz hk d1.1 hm1 (Q := fun x κ' => wp (opJoin (.str "") x κ') Q) fun cs κ2 hl hc d2 => ?_
  refine join_ok (by omega) ?_
  refine h _ _ ?_ ((d1.trans d2).mono (by omega))
  unfold wordOk
  rw [Bool.and_eq_true]
  refine ⟨decide_eq_true ?_, ?_⟩
  · show 1 ≤ cs.toArray.size ∧ cs.toArray.size ≤ 12
    rw [List.size_toArray]
    omega
  · show (cs.toArray.toList.all fun c => decide (c ∈ letS.cps.toList)) = true
    rw [List.toList_toArray, List.all_eq_true]
    exact fun c hx => decide_eq_true (hc c hx)
end

end My

set_option Elab.async false
set_option linter.all false
set_option maxRecDepth 100000
set_option maxHeartbeats 1000000
namespace My
open PySem PyProof.Rows I3
/-- plain signs -/
def txtOk : D → Prop
  | .str s => ∀ c ∈ s.cps.toList, c < 128
  | _ => True
/-- a field's parts -/
structure P4 where
  num : Int
  name : Str
  kind : String
  pre : D
structure P4.Ok (p : P4) : Prop where
  num : 1 ≤ p.num ∧ p.num ≤ 999999
  name : wordOk p.name = true
  kind : kindS p.kind
  good : Good p.pre
  pre : presB p.kind p.pre = true
  txt : txtOk p.pre
def P4.ds (p : P4) : List D := [.int p.num, .str p.name, .str p.kind, p.pre]
abbrev P4.fs (p : P4) : List (Str × D) := fieldF (.int p.num) (.str p.name) (.str p.kind) p.pre
abbrev P4.fld (p : P4) : D := .ins "Field" p.fs
theorem P4.Ok.len {p : P4} (h : p.Ok) : p.name.length ≤ 12 ∧ 1 ≤ p.name.length := by
  have := h.name
  unfold wordOk at this
  rw [Bool.and_eq_true] at this
  have := of_decide_eq_true this.1
  omega
theorem kind_len {k : String} (h : kindS k) : (Str.ofString k).length ≤ 6 := by
  rcases h with rfl | rfl | rfl | rfl <;> decide +kernel
theorem P4.Ok.pres {p : P4} (h : p.Ok) : p.pre = .non ∨ (∃ v, p.pre = .int v ∧ (-1000000000000000000 ≤ v ∧ v ≤ 1000000000000000000)) ∨ ∃ s, p.pre = .str s ∧ s.length ≤ 60 := by
  have h1 := h.pre
  have h2 := h.good
  have hk := h.kind
  cases e : p.pre with
  | non => exact .inl rfl
  | int v =>
    refine .inr (.inl ⟨v, rfl, ?_⟩)
    rw [e] at h1
    rcases hk with k | k | k | k <;> rw [k] at h1 <;> simp [presB, isNonD, dueB] at h1 <;> omega
  | str s =>
    refine .inr (.inr ⟨s, rfl, ?_⟩)
    rw [e] at h1
    simp [presB, isNonD, dueB] at h1
    exact h1.2
  | _ => rw [e] at h1; simp [presB, isNonD, dueB] at h1
def eqP : D → D → Bool
  | .non, .non => true
  | .int a, .int b => decide (a = b)
  | .str a, .str b => decide (a = b)
  | _, _ => false
theorem eqS_P {p q : P4} (hp : p.Ok) (hq : q.Ok) : eqS p.pre q.pre = some (eqP p.pre q.pre) := by
  rcases hp.pres with e | ⟨v, e, _⟩ | ⟨v, e, _⟩ <;> rcases hq.pres with e2 | ⟨v2, e2, _⟩ | ⟨v2, e2, _⟩ <;> rw [e, e2] <;> rfl
theorem eqP_self {p : P4} (hp : p.Ok) : eqP p.pre p.pre = true := by
  rcases hp.pres with e | ⟨v, e, _⟩ | ⟨v, e, _⟩ <;> rw [e] <;> simp [eqP]
theorem eqS_s {a b : Str} : eqS (.str a) (.str b) = some (decide (a = b)) := rfl
theorem eqS_i {a b : Int} : eqS (.int a) (.int b) = some (decide (a = b)) := rfl
def eqF (p q : P4) : Bool := decide (p.num = q.num) && (decide (p.name = q.name) && (decide (p.kind = q.kind) && eqP p.pre q.pre))
theorem eqF_self {p : P4} (hp : p.Ok) : eqF p p = true := by
  simp [eqF, eqP_self hp]
theorem e_app (x : Str) : Str.empty ++ x = x := by
  obtain ⟨a⟩ := x
  show Str.mk (#[] ++ a) = _
  simp
/-- the line of a field -/
def lineS (p : P4) : Str := Str.ofString (toString p.num) ++ Str.ofString " " ++ p.name ++ Str.ofString " " ++ Str.ofString p.kind
def preS : D → Str
  | .int v => Str.ofString (toString v)
  | .str s => s
  | _ => Str.empty
def lineF (p : P4) : Str := match p.pre with
  | .non => lineS p
  | d => lineS p ++ Str.ofString " = " ++ preS d
theorem P4.Ok.nums {p : P4} (h : p.Ok) : -big < p.num ∧ p.num < big := by
  have := h.num
  unfold big
  omega
theorem num_len {p : P4} (h : p.Ok) : (Str.ofString (toString p.num)).length ≤ 62 := int_len h.nums
theorem line_len {p : P4} (h : p.Ok) : (lineS p).length ≤ 100 := by
  unfold lineS
  have a := num_len h
  have b := h.len
  have c := kind_len h.kind
  have l1 : (Str.ofString " ").length = 1 := by decide +kernel
  rw [str_len, str_len, str_len, str_len, l1]
  omega

end My

set_option Elab.async false
set_option linter.all false
set_option maxRecDepth 100000
set_option maxHeartbeats 1000000
namespace My
open PySem PyProof.Rows I3
section
variable {G : Gam} {κ : Store} {Q : D → Store → Prop} {n : Nat} {p q : P4}
@[simp] theorem at_num : wp (opAttr (tb.pgm.gam n) p.fld "number" κ) Q = Q (.int p.num) κ := o_fld a_Field_number (by simp [fieldF, ofString_beq, List.lookup])
@[simp] theorem at_name : wp (opAttr (tb.pgm.gam n) p.fld "name" κ) Q = Q (.str p.name) κ := o_fld a_Field_name (by simp [fieldF, ofString_beq, List.lookup])
@[simp] theorem at_kind : wp (opAttr (tb.pgm.gam n) p.fld "kind" κ) Q = Q (.str p.kind) κ := o_fld a_Field_kind (by simp [fieldF, ofString_beq, List.lookup])
@[simp] theorem at_pre : wp (opAttr (tb.pgm.gam n) p.fld "preset" κ) Q = Q p.pre κ := o_fld a_Field_preset (by simp [fieldF, ofString_beq, List.lookup])
end

end My

set_option Elab.async false
set_option linter.all false
set_option maxRecDepth 100000
set_option maxHeartbeats 1000000
namespace My
open PySem PyProof.Rows I3
section
variable {G : Gam} {κ : Store} {Q : D → Store → Prop} {n : Nat} {p q : P4}
theorem eq_run (hp : p.Ok) (hq : q.Ok) : I3.run tb.pgm (n + 1) "Field.__eq__" [p.fld, q.fld] κ = .ok (.bl (eqF p q)) κ := by
  refine wp_eq (wp_def [some p.fld, some q.fld] .keep _ p_Field___eq__ rfl rfl rfl rfl (ss_if' ?_))
  have hk : opIsC (tb.pgm.gam n) "Field" q.fld κ = some true := ko_Field_Field
  simp [kc_Field, hk, eqS_i]
  by_cases e : p.num = q.num
  · simp [e]
    refine ss_nil' ?_
    refine ss_ret' ?_
    simp [eqS_s, eqS_P hp hq]
    by_cases e1 : p.name = q.name
    · by_cases e2 : p.kind = q.kind
      · simp [e1, e2, eqS_s, eqS_P hp hq, eqF, e]
      · simp [e1, e2, eqS_s, ofString_inj, eqF]
    · simp [e1, eqF]
  · simp [e]
    refine ss_ret' ?_
    simp [eqF, e]
theorem eq_other {y : D} {t : String} (hb : opIsC (tb.pgm.gam n) "Field" y κ = some false) : I3.run tb.pgm (n + 1) "Field.__eq__" [p.fld, y] κ = .ok (.bl false) κ := by
  refine wp_eq (wp_def [some p.fld, some y] .keep _ p_Field___eq__ rfl rfl rfl rfl (ss_if' ?_))
  simp [kc_Field, hb]
  refine ss_ret' ?_
  simp
end
theorem kEq : ("Field" : Str) ++ "." ++ "__eq__" = ("Field.__eq__" : Str) := by decide +kernel
section
variable {κ : Store} {Q : D → Store → Prop} {n : Nat} {p q : P4}
theorem eqo_n (hp : p.Ok) (hq : q.Ok) : wp (opEqo (tb.pgm.gam (n + 1)) false p.fld q.fld κ) Q = Q (.bl (eqF p q)) κ :=
  o_eqoI ke_Field me_Field___eq__ (by unfold eqTy; exact beq_self_eq_true _) (by rw [kEq, gam_call]; exact eq_run hp hq)
theorem neo_n (hp : p.Ok) (hq : q.Ok) : wp (opEqo (tb.pgm.gam (n + 2)) true p.fld q.fld κ) Q = Q (.bl (!eqF p q)) κ :=
  o_neoI ke_Field me_Field___eq__ (by unfold eqTy; exact beq_self_eq_true _) (by rw [kEq, gam_low0]; exact eq_run hp hq)
theorem eqo_other {y : D} {t : String} (h1 : insOf κ y = none) (ht : tyName y κ = some t) (hb : tb.pgm.kB t "Field" = some false) : wp (opEqo (tb.pgm.gam (n + 1)) false p.fld y κ) Q = Q (.bl false) κ := by
  have hc : opIsC (tb.pgm.gam n) "Field" y κ = some false := by
    unfold opIsC
    rw [h1, ht]
    exact hb
  exact o_eqoI ke_Field me_Field___eq__ (by unfold eqTy; rw [h1, ht]; rfl) (by rw [kEq, gam_call]; exact eq_other (t := t) hc)
end

end My

set_option Elab.async false
set_option linter.all false
set_option maxRecDepth 100000
set_option maxHeartbeats 1000000
namespace My
open PySem PyProof.Rows I3
theorem kInit : ("Field" : Str) ++ ".__init__" = ("Field.__init__" : Str) := by decide +kernel
theorem wp_if' {c : Prop} [Decidable c] {x y : Prop} (h : c) (hx : x) : if c then x else y := by
  rw [if_pos h]
  exact hx
section
variable {κ : Store} {Q : D → Store → Prop} {n : Nat} {p q : P4}
theorem o_strI {v : Int} (h : -big < v ∧ v < big) : wp (opF1 .str (.int v) κ) Q = Q (.str (Str.ofString (toString v))) κ := by
  show wp (if -big < v ∧ v < big then _ else _) Q = _
  rw [if_pos h]
  first | rfl | exact wp_rfl rfl
/-- Field(..) -/
theorem init_short : I3.run tb.pgm (n + 1) "Field.__init__" [.cell κ.length, .int p.num, .str p.name, .str p.kind] (κ ++ [.ins "Field" []]) = I3.run tb.pgm (n + 1) "Field.__init__" [.cell κ.length, .int p.num, .str p.name, .str p.kind, .non] (κ ++ [.ins "Field" []]) :=
  run_fill p_Field___init__ rfl
theorem P4.Ok.init (hp : p.Ok) : I3.run tb.pgm (n + 3) "Field.__init__" [.cell κ.length, .int p.num, .str p.name, .str p.kind, p.pre] (κ ++ [.ins "Field" []]) = .ok .non (κ ++ [.ins "Field" p.fs]) := by
  have h := init_any (n := n) (κ := κ) (Good.int p.num) (Good.str p.name (by have := hp.len; omega)) (Good.str (Str.ofString p.kind) (by have := kind_len hp.kind; omega)) hp.good p.kind hp.kind (fun _ => rfl)
  have e1 : numB (.int p.num) = true := decide_eq_true hp.num
  have e2 : wordB (.str p.name) = true := hp.name
  have e3 : kindB (.str (Str.ofString p.kind)) = true := by
    rcases hp.kind with k | k | k | k <;> rw [k] <;> decide +kernel
  rw [h, e1, e2, e3, hp.pre]
  first | rfl | exact wp_rfl rfl
theorem mk_fld {es : List E} {ρ : Env'} (hp : p.Ok) (hf : FlatS κ) (he : wp (evL (tb.pgm.gam (n + 4)) es ρ κ) fun ds κ' => ds = p.ds ∧ κ' = κ) (h : Q p.fld κ) : wp (ev (tb.pgm.gam (n + 4)) (.make ("Field" : Str) es .tree) ρ κ) Q := by
  simp only [w_make]
  refine wp_if' (show (tb.pgm.gam (n + 4)).isC "Field" = true from mk_Field) ?_
  refine wp_mono he fun ds κ' ⟨e1, e2⟩ => ?_
  subst e1 e2
  rw [kInit, gam_low0]
  unfold P4.ds
  rw [hp.init, wp_ok, e_make (by simp [fieldF, closedF, hp.good.closed, I3.closed]) (hf _)]
  exact h
theorem mk_fld3 {es : List E} {ρ : Env'} (hp : p.Ok) (hpn : p.pre = .non) (hf : FlatS κ) (he : wp (evL (tb.pgm.gam (n + 4)) es ρ κ) fun ds κ' => ds = [.int p.num, .str p.name, .str p.kind] ∧ κ' = κ) (h : Q p.fld κ) : wp (ev (tb.pgm.gam (n + 4)) (.make ("Field" : Str) es .tree) ρ κ) Q := by
  simp only [w_make]
  refine wp_if' (show (tb.pgm.gam (n + 4)).isC "Field" = true from mk_Field) ?_
  refine wp_mono he fun ds κ' ⟨e1, e2⟩ => ?_
  subst e1 e2
  rw [kInit, gam_low0]
  have hi := hp.init (n := n) (κ := κ')
  rw [hpn] at hi
  rw [init_short, hi, wp_ok, e_make (by simp [fieldF, closedF, hp.good.closed, I3.closed]) (hf _)]
  exact h
end

end My

set_option Elab.async false
set_option linter.all false
set_option maxRecDepth 100000
set_option maxHeartbeats 1000000
namespace My
open PySem PyProof.Rows I3
--hb 1000000
open PySem.NumText
/-! read_digits, read_preset, read_field -/
def optN : Option Nat → D
  | none => .non
  | some v => .int (v : Int)
def optD : Option D → D
  | none => .non
  | some d => d
def isDig (c : Nat) : Bool := decide (48 ≤ c ∧ c ≤ 57)
/-- the integer that is written so -/
def rdig (most : Nat) (l : List Nat) : Option Nat := if (1 ≤ l.length ∧ l.length ≤ most) ∧ l.all isDig = true ∧ ¬ (l.head? = some 48 ∧ 1 < l.length) then some (digitsVal l) else none
theorem rdig_dgs {n most : Nat} (h1 : 1 ≤ most) (h : n < 10 ^ most) : rdig most (LT.dgs n) = some n := by
  unfold rdig
  rw [if_pos, LT.dgs_val]
  refine ⟨⟨LT.dgs_pos n, LT.dgs_len h1 h⟩, ?_, ?_⟩
  · rw [List.all_eq_true]
    intro c hc
    exact decide_eq_true (LT.dgs_all n c hc)
  · rintro ⟨a, b⟩
    rcases Nat.eq_zero_or_pos n with e | e
    · subst e
      rw [LT.dgs_zero] at b
      simp at b
    · exact LT.dgs_head n e a
theorem fig_mem (c : Nat) : decide (c ∈ (Str.ofString "0123456789").cps.toList) = isDig c := by
  have e : (Str.ofString "0123456789").cps.toList = [48, 49, 50, 51, 52, 53, 54, 55, 56, 57] := by decide +kernel
  rw [e]
  unfold isDig
  rw [decide_eq_decide]
  simp only [List.mem_cons, List.not_mem_nil, or_false]
  omega
theorem one_eq {c : Nat} {s : String} {k : Nat} (hs : (Str.ofString s).cps.toList = [k]) : ((⟨#[c]⟩ : Str) = Str.ofString s) ↔ c = k := by
  constructor
  · intro h
    rw [← h] at hs
    simpa using hs
  · rintro rfl
    exact LT.tl_inj (by rw [LT.tl, LT.tl, hs])
section
variable {n : Nat} {κ : Store}
theorem digits2_n {z : Str} {most : Nat} (hz : z.length ≤ 1000) (hm : most ≤ 600) : I3.run tb.pgm (n + 1) "read_digits" [.str z, .int (most : Int)] κ = .ok (optN (rdig most (LT.tl z))) κ := by
  refine wp_eq (wp_def [some (.str z), some (.int (most : Int)), none] .keep _ p_read_digits rfl rfl rfl rfl (ss_if' ?_))
  have hl : (LT.tl z).length = z.length := LT.tl_len
  by_cases h1 : 1 ≤ z.length
  · by_cases h2 : z.length ≤ most
    · have h1' : (1 : Int) ≤ (z.length : Int) := by omega
      have h2' : (z.length : Int) ≤ (most : Int) := by omega
      have hsz : (signsD z).length ≤ 16777216 := by
        unfold signsD
        rw [List.length_map]
        have : z.cps.toList.length = z.length := hl
        omega
      have t1 : wp (evT (tb.pgm.gam n) (.or (.not (.cmp2 .le .le (.int 1) (.f1 .len (.var 0)) (.var 1))) (.one (.not (.e (.f1 .all (.comp (.nm 2) (.val (.var 0)) [] (.cmp .inn (.var 2) (.glob ("FIGURES" : Str))) [2])))))) [some (.str z), some (.int (most : Int)), none] κ) fun t κ' => t = !((LT.tl z).all isDig) ∧ κ' = κ := by
        simp [o_lenS (z := z) (by omega), h1', h2']
        refine wp_if hsz ?_
        refine wp_compM (fun d => match d with | .str z => .bl (z.cps.toList.all isDig) | d => d) (fun d hd => ?_) ?_
        · obtain ⟨c, hc, rfl⟩ := signs_mem hd
          have hf := fig_mem c
          simp [cstep, bindT, wipeE, g_FIGURES]
          simpa using hf
        · have e : (signsD z).map (fun d => match d with | .str z => .bl (z.cps.toList.all isDig) | d => d) = z.cps.toList.map fun c => D.bl (isDig c) := by
            unfold signsD
            rw [List.map_map]
            refine List.map_congr_left fun c _ => ?_
            simp
          rw [e, o_all (asBools_map (g := isDig))]
          simp [List.all_map]
      refine wp_mono t1 fun t κ1 ⟨e1, e2⟩ => ?_
      subst e1 e2
      cases ha : (LT.tl z).all isDig with
      | false =>
        simp only [Bool.not_false, if_true]
        refine ss_ret' ?_
        have : rdig most (LT.tl z) = none := if_neg fun q => by rw [ha] at q; exact absurd q.2.1 (by decide)
        rw [this]
        first | exact ⟨rfl, rfl⟩ | (simp only [w_non, e_keep, wp_ok]; exact ⟨rfl, rfl⟩) | (simp only [w_non, e_keep, wp_ok, optN, optD, and_self]; done) | (simp [optN, optD]; done)
      | true =>
        simp only [Bool.not_true, Bool.false_eq_true, if_false]
        refine ss_nil' ?_
        refine ss_if' ?_
        obtain ⟨c0, r, hr⟩ : ∃ c0 r, LT.tl z = c0 :: r := by
          cases e : LT.tl z with
          | nil => rw [e] at hl; simp at hl; omega
          | cons a b => exact ⟨a, b, rfl⟩
        have hat : L2.atI z.cps.toList (0 : Int) = some c0 := at_nat (k := 0) (by show (LT.tl z)[0]? = _; rw [hr]; rfl)
        have hsub : ∀ Q : D → Store → Prop, wp (opSub (.str z) (.int 0) κ1) Q = Q (.str ⟨#[c0]⟩) κ1 := fun Q => by
          show wp (if z.length ≤ 16777216 then (match L2.atI z.cps.toList 0 with | some c => .ok (.str ⟨#[c]⟩) κ1 | none => .bad) else .bad) Q = _
          rw [if_pos (by omega), hat]
          first | rfl | exact wp_rfl rfl
        have h0 : ((⟨#[c0]⟩ : Str) = Str.ofString "0") ↔ c0 = 48 := one_eq (by decide +kernel)
        have hh : (LT.tl z).head? = some c0 := by rw [hr]; rfl
        have t2 : wp (evT (tb.pgm.gam n) (.and (.cmp .eq (.sub (.var 0) (.int 0)) (.str ("0" : Str))) (.one (.cmp .gt (.f1 .len (.var 0)) (.int 1)))) [some (.str z), some (.int (most : Int)), none] κ1) fun t κ' => t = decide (c0 = 48 ∧ 1 < z.length) ∧ κ' = κ1 := by
          simp only [t_and, t_cmp, w_sub, w_var, w_int, w_str, wp_ok, List.getElem?_cons_zero, hsub, w_cmp, o_eq, eqS]
          simp only [wp_ok, tr_bl, h0, t_one, t_cmp, w_f1, w_var, List.getElem?_cons_zero, o_lenS (z := z) (κ := κ1) (by omega), w_int, o_gt, w_cmp]
          by_cases e0 : c0 = 48
          · simp [e0]
            omega
          · simp [e0]
        refine wp_mono t2 fun t κ2 ⟨e1, e2⟩ => ?_
        subst e1 e2
        by_cases hc : c0 = 48 ∧ 1 < z.length
        · rw [decide_eq_true hc, if_pos rfl]
          refine ss_ret' ?_
          have : rdig most (LT.tl z) = none := if_neg fun q => q.2.2 ⟨by rw [hh, hc.1], by rw [hl]; exact hc.2⟩
          rw [this]
          first | exact ⟨rfl, rfl⟩ | (simp only [w_non, e_keep, wp_ok]; exact ⟨rfl, rfl⟩) | (simp only [w_non, e_keep, wp_ok, optN, optD, and_self]; done) | (simp [optN, optD]; done)
        · rw [decide_eq_false hc]
          simp only [Bool.false_eq_true, if_false]
          refine ss_nil' ?_
          refine ss_ret' ?_
          have hr2 : rdig most (LT.tl z) = some (digitsVal (LT.tl z)) := if_pos ⟨⟨by omega, by omega⟩, ha, fun q => hc ⟨by rw [hh] at q; exact Option.some.inj q.1, by rw [hl] at q; exact q.2⟩⟩
          rw [hr2]
          have hd : AllDigits z.cps.toList := fun c hc => of_decide_eq_true (List.all_eq_true.mp ha c hc)
          have hi := intText_digits (x := z) hd (by show LT.tl z ≠ []; rw [hr]; simp) (by omega)
          have hint : ∀ Q : D → Store → Prop, wp (opF1 .int (.str z) κ2) Q = Q (.int ((digitsVal (LT.tl z) : Nat) : Int)) κ2 := fun Q => by
            show wp (match PySem.intText? z with | some n => if z.length ≤ 640 then .ok (.int n) κ2 else .bad | none => .bad) Q = _
            rw [hi]
            dsimp only
            rw [if_pos (by omega)]
            first | rfl | exact wp_rfl rfl
          simp only [w_f1, w_var, wp_ok, List.getElem?_cons_zero, hint]
          first | exact ⟨rfl, rfl⟩ | (simp only [w_non, e_keep, wp_ok]; exact ⟨rfl, rfl⟩) | (simp only [w_non, e_keep, wp_ok, optN, optD, and_self]; done) | (simp [optN, optD]; done)
    · have h1' : (1 : Int) ≤ (z.length : Int) := by omega
      have h2' : ¬ (z.length : Int) ≤ (most : Int) := by omega
      simp [o_lenS (z := z) (by omega), h1', h2']
      refine ss_ret' ?_
      have : rdig most (LT.tl z) = none := if_neg fun q => by have := q.1.2; omega
      rw [this]
      first | exact ⟨rfl, rfl⟩ | (simp only [w_non, e_keep, wp_ok]; exact ⟨rfl, rfl⟩) | (simp only [w_non, e_keep, wp_ok, optN, optD, and_self]; done) | (simp [optN, optD]; done)
  · have h1' : ¬ (1 : Int) ≤ (z.length : Int) := by omega
    simp [o_lenS (z := z) (by omega), h1']
    refine ss_ret' ?_
    have : rdig most (LT.tl z) = none := if_neg fun q => by have := q.1.1; omega
    rw [this]
    first | exact ⟨rfl, rfl⟩ | (simp only [w_non, e_keep, wp_ok]; exact ⟨rfl, rfl⟩) | (simp only [w_non, e_keep, wp_ok, optN, optD, and_self]; done) | (simp [optN, optD]; done)
theorem digits_n {z : Str} (hz : z.length ≤ 1000) : I3.run tb.pgm (n + 1) "read_digits" [.str z] κ = .ok (optN (rdig 19 (LT.tl z))) κ :=
  by
  have e := run_fill (n := n) (κ := κ) (ds := [D.str z]) (ds' := [D.str z, D.int ((19 : Nat) : Int)]) p_read_digits rfl
  rw [e]
  exact digits2_n (most := 19) hz (by decide)
/-- the preset that is written so -/
def rpre (k : String) (z : Str) : Option D := if k = "text" then some (.str z) else match LT.tl z with
  | 45 :: r => (match rdig 19 r with
    | some (v + 1) => some (.int (-((v + 1 : Nat) : Int)))
    | _ => none)
  | l => (rdig 19 l).map fun (v : Nat) => D.int (v : Int)
theorem starts_one {z : Str} : Txt.startswith z (Str.ofString "-") = decide ((LT.tl z).head? = some 45) := by
  have e : Str.ofString "-" = ⟨#[45]⟩ := by decide +kernel
  unfold Txt.startswith
  rw [e, Bool.eq_iff_iff, Bool.and_eq_true, decide_eq_true_eq, decide_eq_true_eq]
  have := StrLaws.subAt_one z 45 0
  rw [List.head?_eq_getElem?]
  exact this
theorem sl_drop (z : Str) : (Txt.slice z (some 1) none).cps.toList = z.cps.toList.drop 1 := by
  have e : Txt.slice z (some (1 : Int)) none = L2.cutS z (some (1 : Int)) none := L2.sliceText_cut z (some (1 : Int)) none
  rw [e]
  show (((z.cps.toList.drop (HT.sIx z.length 0 (some 1))).take (HT.sIx z.length z.length none - HT.sIx z.length 0 (some 1))).toArray).toList = _
  rw [List.toList_toArray]
  have e1 : HT.sIx z.length z.length none = z.length := rfl
  have e0 : HT.sIx z.length 0 (some (1 : Int)) = min 1 z.length := by
    unfold HT.sIx
    simp
  have hl : z.length = z.cps.toList.length := Array.length_toList.symm
  rw [e0, e1, List.take_of_length_le (by rw [List.length_drop, hl]; omega)]
  by_cases h : z.length = 0
  · have : z.cps.toList = [] := List.length_eq_zero_iff.mp (hl ▸ h)
    rw [this]
    simp
  · rw [show min 1 z.length = 1 by omega]
theorem preset_n {z : Str} {k : String} (hk : kindS k) (hz : z.length ≤ 1000) : I3.run tb.pgm (n + 2) "read_preset" [.str k, .str z] κ = .ok (optD (rpre k z)) κ := by
  refine wp_eq (wp_def [some (.str k), some (.str z), none] .keep _ p_read_preset rfl rfl rfl rfl (ss_if' ?_))
  by_cases hkt : k = "text"
  · subst hkt
    simp [c_Kind_TEXT, eqS, ofString_inj]
    refine ss_ret' ?_
    simp [rpre, optD]
  · simp [c_Kind_TEXT, eqS, ofString_inj, hkt]
    refine ss_nil' ?_
    refine ss_if' ?_
    have hst : ∀ Q : D → Store → Prop, wp (opBM .starts (.str z) [.str "-"] κ) Q = Q (.bl (decide ((LT.tl z).head? = some 45))) κ := fun Q => by
      show wp (Res.ok (D.bl (Txt.startswith z (Str.ofString "-"))) κ) Q = _
      rw [starts_one]
      first | rfl | exact wp_rfl rfl
    have hty : ∀ Q : Unit → Store → Prop, wp (opTy .starts (.str z) κ) Q = Q () κ := fun Q => wp_rfl rfl
    simp only [t_e, w_bm, w_var, w_cons, w_str, w_nil, List.getElem?_cons_zero, List.getElem?_cons_succ, wp_ok, hty, hst, tr_bl]
    have hl : (LT.tl z).length = z.length := LT.tl_len
    by_cases h45 : (LT.tl z).head? = some 45
    · obtain ⟨r, hr⟩ : ∃ r, LT.tl z = 45 :: r := by
        cases e : LT.tl z with
        | nil => rw [e] at h45; cases h45
        | cons a b => rw [e] at h45; cases h45; exact ⟨b, rfl⟩
      rw [decide_eq_true h45, if_pos rfl]
      refine ss_asg' ?_
      have hsl : ∀ Q : D → Store → Prop, wp (opSlice (.str z) (some 1) none κ) Q = Q (.str (Txt.slice z (some 1) none)) κ := fun Q => by
        show wp (if z.length ≤ 16777216 then .ok (.str (Txt.slice z (some 1) none)) κ else .bad) Q = _
        rw [if_pos (by omega)]
        first | rfl | exact wp_rfl rfl
      have et : LT.tl (Txt.slice z (some 1) none) = r := by
        rw [show LT.tl (Txt.slice z (some 1) none) = (LT.tl z).drop 1 from sl_drop z, hr]
        first | rfl | exact wp_rfl rfl
      have hlen : (Txt.slice z (some 1) none).length ≤ 1000 := by
        have e1 : (LT.tl (Txt.slice z (some 1) none)).length = (Txt.slice z (some 1) none).length := LT.tl_len
        rw [et] at e1
        rw [hr] at hl
        simp at hl
        omega
      have p1 : partE (.int 1) = false := rfl
      have p2 : partE .non = true := rfl
      simp only [w_call, w_cons, w_nil, w_slice, w_var, List.getElem?_cons_zero, List.getElem?_cons_succ, wp_ok, p1, p2, if_true, Bool.false_eq_true, if_false, wp_bind, w_int, opPart, hsl, gam_call, digits_n hlen, et, List.set_cons_zero, List.set_cons_succ]
      refine ss_ret' ?_
      have hp : rpre k z = match rdig 19 r with | some (v + 1) => some (.int (-((v + 1 : Nat) : Int))) | _ => none := by
        unfold rpre
        rw [if_neg hkt, hr]
        first | rfl | exact wp_rfl rfl
      rw [hp]
      cases hv : rdig 19 r with
      | none => simp [optN, isNonD, optD]
      | some v =>
        cases v with
        | zero => simp [optN, isNonD, optD, eqS]
        | succ v =>
          have : ¬ ((v : Int) + 1 = 0) := by omega
          simp [optN, isNonD, optD, eqS, this]
    · rw [decide_eq_false h45]
      simp only [Bool.false_eq_true, if_false]
      refine ss_nil' ?_
      refine ss_ret' ?_
      have hp : rpre k z = (rdig 19 (LT.tl z)).map fun (v : Nat) => D.int (v : Int) := by
        unfold rpre
        rw [if_neg hkt]
        split
        · rename_i r hr
          rw [hr] at h45
          exact absurd rfl h45
        · rfl
      simp only [w_call, w_cons, w_nil, w_var, List.getElem?_cons_zero, List.getElem?_cons_succ, wp_ok, gam_call, digits_n hz, hp]
      cases rdig 19 (LT.tl z) <;> (first | exact ⟨rfl, rfl⟩ | (simp only [w_non, e_keep, wp_ok]; exact ⟨rfl, rfl⟩) | (simp only [w_non, e_keep, wp_ok, optN, optD, and_self]; done) | (simp [optN, optD]; done))
/-- the kind that is named so -/
def kindOf (l : List Nat) : Option String :=
  if l = LT.tl "small" then some "small" else if l = LT.tl "whole" then some "whole" else if l = LT.tl "signed" then some "signed" else if l = LT.tl "text" then some "text" else none
theorem kindOf_ok {z : Str} {k : String} (h : kindOf (LT.tl z) = some k) : kindS k ∧ z = Str.ofString k := by
  unfold kindOf at h
  split at h
  · cases h; exact ⟨.inl rfl, LT.tl_inj (by assumption)⟩
  · split at h
    · cases h; exact ⟨.inr (.inl rfl), LT.tl_inj (by assumption)⟩
    · split at h
      · cases h; exact ⟨.inr (.inr (.inl rfl)), LT.tl_inj (by assumption)⟩
      · split at h
        · cases h; exact ⟨.inr (.inr (.inr rfl)), LT.tl_inj (by assumption)⟩
        · cases h
theorem kindOf_s {k : String} (h : kindS k) : kindOf (LT.tl (Str.ofString k)) = some k := by
  rcases h with rfl | rfl | rfl | rfl <;> decide +kernel
theorem kindOf_none {z : Str} (h : kindOf (LT.tl z) = none) : kindB (.str z) = false := by
  unfold kindOf at h
  simp only [kindB]
  have hn : ∀ s : String, LT.tl z ≠ LT.tl (Str.ofString s) → (z == Str.ofString s) = false := fun s hs => beq_false_of_ne fun e => hs (by rw [e])
  split at h
  · cases h
  · split at h
    · cases h
    · split at h
      · cases h
      · split at h
        · cases h
        · rename_i a b c d
          rw [hn _ a, hn _ b, hn _ c, hn _ d]
          first | rfl | exact wp_rfl rfl
theorem kindB_s {k : String} (h : kindS k) : kindB (.str (Str.ofString k)) = true := by
  rcases h with rfl | rfl | rfl | rfl <;> decide +kernel
/-- the field of these parts -/
def fldOf (v : Nat) (name : Str) (k : String) (pre : D) : Option P4 :=
  if numB (.int (v : Int)) && wordOk name && presB k pre then some ⟨(v : Int), name, k, pre⟩ else none
/-- the field that is written so -/
def rfld (z : Str) : Option P4 :=
  if 10 ∈ LT.tl z then none else match LT.splL 32 4 (LT.tl z) with
  | [a, b, c] => (match rdig 19 a, kindOf c with
    | some v, some k => fldOf v (LT.mkS b) k .non
    | _, _ => none)
  | [a, b, c, e, f] => if e = [61] then (match rdig 19 a, kindOf c with
    | some v, some k => (match rpre k (LT.mkS f) with
      | some d => fldOf v (LT.mkS b) k d
      | none => none)
    | _, _ => none) else none
  | _ => none
def fldD : Option P4 → D
  | none => .non
  | some p => p.fld
end

end My

set_option Elab.async false
set_option linter.all false
set_option maxRecDepth 100000
set_option maxHeartbeats 400000
namespace My
open PySem PyProof.Rows I3
--hb 400000
/-! read_field -/
section
variable {G : Gam} {ρ : Env'} {κ : Store} {QF : I3.Flow → Store → Prop} {n : Nat}
theorem wp_ifT {r : Res Bool} {κ : Store} {P Q : Bool → Store → Prop} (h : wp r fun t κ' => t = true ∧ κ' = κ) (hp : P true κ) : wp r fun t κ => if t = true then P t κ else Q t κ := wp_mono h fun t κ1 q => by
  obtain ⟨rfl, rfl⟩ := q
  rw [if_pos rfl]
  exact hp
theorem ss_retX' {e : E} {ss : List S} {c : Str} {fs : List (Str × D)} {κ1 : Store} (h : ev G e ρ κ = .exc c fs κ1) (hq : QF (.exc c fs ρ) κ1) : wp (evSs G (.ret e :: ss) ρ κ) QF := by
  refine ss_cons' ?_
  unfold evS
  rw [h]
  exact wp_pure rfl hq
theorem e_tree1 {c : Str} {x : D} {Q : D → Store → Prop} (h : FlatS κ) (hx : ∀ n, I3.closed n x = true) (hs : ∀ j t, sub j t x = x) : wp (endD κ.length .tree (.ret x) (κ ++ [.ins c []])) Q = Q x κ := by
  have e : endD κ.length .tree (.ret x) (κ ++ [.ins c []]) = .ok x κ := by
    show I3.finish κ.length .tree x (κ ++ [.ins c []]) = _
    unfold I3.finish
    dsimp only
    rw [if_neg (by simp)]
    have e1 : (κ ++ [D.ins c []]).drop κ.length = [.ins c []] := by simp
    have e2 : (κ ++ [D.ins c []]).take κ.length = κ := by simp
    rw [e1, e2]
    have e3 : resolve κ.length [.ins c []] x = x := hs _ _
    rw [e3, hx, h]
    first | rfl | exact wp_rfl rfl
  rw [e]
  first | rfl | exact wp_rfl rfl
theorem fld_made {v : Nat} {b : Str} {k : String} {pre : D} {es : List E} (hk : kindS k) (hb : b.length ≤ 1000) (hp : Good pre) (hf : FlatS κ)
    (he : evL (tb.pgm.gam (n + 4)) es ρ κ = .ok [.int (v : Int), .str b, .str k, pre] κ) :
    (∃ p, fldOf v b k pre = some p ∧ p = ⟨(v : Int), b, k, pre⟩ ∧ ev (tb.pgm.gam (n + 4)) (.make ("Field" : Str) es .tree) ρ κ = .ok p.fld κ) ∨
    (fldOf v b k pre = none ∧ ∃ w, ev (tb.pgm.gam (n + 4)) (.make ("Field" : Str) es .tree) ρ κ = .exc "WrongField" [("what", .str w)] (κ ++ [.ins "Field" []])) := by
  have hm : ev (tb.pgm.gam (n + 4)) (.make ("Field" : Str) es .tree) ρ κ = (I3.run tb.pgm (n + 3) "Field.__init__" [.cell κ.length, .int (v : Int), .str b, .str k, pre] (κ ++ [.ins "Field" []])).bind fun r κ' => endMake κ.length .tree r κ' := by
    simp only [ev]
    rw [if_pos (show (tb.pgm.gam (n + 4)).isC "Field" = true from mk_Field), he, kInit, Res.bind_ok, gam_low0]
  have hi := init_any (n := n) (κ := κ) (Good.int (v : Int)) (Good.str b hb) (Good.str (Str.ofString k) (by rcases hk with rfl | rfl | rfl | rfl <;> decide +kernel)) hp k hk (fun _ => rfl)
  rw [hi, kindB_s hk] at hm
  unfold fldOf
  by_cases h : (numB (.int (v : Int)) && wordOk b && presB k pre) = true
  · rw [if_pos h]
    simp only [Bool.and_eq_true] at h
    obtain ⟨⟨h1, h2⟩, h3⟩ := h
    refine .inl ⟨_, rfl, rfl, ?_⟩
    rw [hm, h1, show wordB (.str b) = true from h2, h3]
    have e0 : initR (firstW (!true) (!true) (!true) (!true)) κ (fieldF (.int (v : Int)) (.str b) (.str k) pre) = .ok .non (κ ++ [.ins "Field" (fieldF (.int (v : Int)) (.str b) (.str k) pre)]) := rfl
    rw [e0, Res.bind_ok]
    refine wp_eq ?_
    rw [e_make (by simp [fieldF, closedF, hp.closed, I3.closed]) (hf _)]
    first | exact ⟨rfl, rfl⟩ | (simp only [w_non, e_keep, wp_ok]; exact ⟨rfl, rfl⟩) | (simp only [w_non, e_keep, wp_ok, optN, optD, and_self]; done) | (simp [optN, optD]; done)
  · rw [if_neg h]
    refine .inr ⟨rfl, ?_⟩
    have hw : ∃ w, firstW (!numB (.int (v : Int))) (!wordB (.str b)) (!true) (!presB k pre) = some w := by
      simp only [Bool.and_eq_true, not_and, Bool.not_eq_true] at h
      cases h1 : numB (.int (v : Int)) with
      | false => exact ⟨_, rfl⟩
      | true =>
        cases h2 : wordB (.str b) with
        | false => exact ⟨_, rfl⟩
        | true =>
          have := h ⟨h1, h2⟩
          rw [this]
          exact ⟨_, rfl⟩
    obtain ⟨w, ew⟩ := hw
    rw [ew] at hm
    exact ⟨_, hm⟩
theorem o_split {z : Str} (hz : z.length ≤ 1000) {Q : D → Store → Prop} : wp (opBM .split2 (.str z) [.str " ", .int 4] κ) Q = Q (.lst ((LT.splL 32 4 (LT.tl z)).map fun l => D.str (LT.mkS l))) κ := by
  have e : Str.ofString " " = ⟨#[32]⟩ := by decide +kernel
  show wp (if ((Str.ofString " ").length == 0) = false ∧ (-(2 ^ 63) ≤ (4 : Int) ∧ (4 : Int) < 2 ^ 63) ∧ z.length + 2 ≤ 16777216 then .ok (.lst ((Txt.splitMax z (Str.ofString " ") 4).map D.str)) κ else .bad) Q = _
  rw [if_pos ⟨by decide +kernel, by decide, by omega⟩, e, LT.splitMax_one]
  have e2 : limitOf z 4 = 4 := rfl
  rw [wp_ok, e2, List.map_map]
  first | rfl | exact wp_rfl rfl
theorem kindB_all {z : Str} : inList (.str z) [.str "small", .str "whole", .str "signed", .str "text"] = some (kindB (.str z)) := by
  simp [inList, flatD, eqFl, kindB, Bool.beq_comm]
  rw [Bool.beq_comm (a := z)]
  cases (z == Str.ofString "small") <;> simp [Bool.or_assoc, BEq.comm]
/-- the statements behind the preset -/
theorem try_ok {z b : Str} {xs : List D} {v : Nat} {k : String} {pre : D} (hk : kindS k) (hb : b.length ≤ 1000) (hp : Good pre) (hf : FlatS κ) (h1 : xs[1]? = some (.str b)) (h2 : xs[2]? = some (.str k)) :
    wp (evSs (tb.pgm.gam (n + 4)) [.try_ [.ret (.make ("Field" : Str) [.var 2, .sub (.var 1) (.int 1), .sub (.var 1) (.int 2), .var 3] .tree)] ("WrongField" : Str) none [.ret .non]] [some (.str z), some (.lst xs), some (.int (v : Int)), some pre] κ)
      fun fl κ' => wp (endD κ.length .tree fl κ') fun a κ2 => a = fldD (fldOf v b k pre) ∧ κ2 = κ := by
  have he : evL (tb.pgm.gam (n + 4)) [.var 2, .sub (.var 1) (.int 1), .sub (.var 1) (.int 2), .var 3] [some (.str z), some (.lst xs), some (.int (v : Int)), some pre] κ = .ok [.int (v : Int), .str b, .str k, pre] κ := by
    refine wp_eq ?_
    have s1 : ∀ Q : D → Store → Prop, wp (opSub (.lst xs) (.int 1) κ) Q = Q (.str b) κ := fun Q => o_subL (at_nat (k := 1) h1)
    have s2 : ∀ Q : D → Store → Prop, wp (opSub (.lst xs) (.int 2) κ) Q = Q (.str k) κ := fun Q => o_subL (at_nat (k := 2) h2)
    simp [s1, s2]
  refine ss_try' kn_WrongField ?_
  rcases fld_made hk hb hp hf he with ⟨p, e1, e2, e3⟩ | ⟨e1, w, e3⟩
  · refine ss_ret' ?_
    rw [e3, e1, wp_ok]
    show wp (endD κ.length .tree (.ret p.fld) κ) _
    rw [e_tree' rfl]
    first | exact ⟨rfl, rfl⟩ | (simp only [w_non, e_keep, wp_ok]; exact ⟨rfl, rfl⟩) | (simp only [w_non, e_keep, wp_ok, optN, optD, and_self]; done) | (simp [optN, optD]; done)
  · refine ss_retX' e3 ?_
    rw [e1]
    refine ⟨kx_WrongField_WrongField, .ret .non, κ ++ [.ins "Field" []], fun a dx => ?_, ?_⟩
    · refine ss_ret' ?_
      rw [w_non]
      exact rfl
    · show wp (endD κ.length .tree (.ret .non) (κ ++ [.ins "Field" []])) _
      rw [e_tree1 hf (fun _ => rfl) (fun _ _ => rfl)]
      first | exact ⟨rfl, rfl⟩ | (simp only [w_non, e_keep, wp_ok]; exact ⟨rfl, rfl⟩) | (simp only [w_non, e_keep, wp_ok, optN, optD, and_self]; done) | (simp [optN, optD]; done)
theorem rpre_good {k : String} {z : Str} {d : D} (hz : z.length ≤ 1000) (h : rpre k z = some d) : Good d := by
  unfold rpre at h
  split at h
  · cases h
    exact .str z hz
  · split at h
    · split at h
      · cases h; exact .int _
      · cases h
    · cases hr : rdig 19 (LT.tl z) with
      | none => rw [hr] at h; cases h
      | some v => rw [hr] at h; cases h; exact .int _
theorem nl_in {z : Str} : inD (.str "\n") (.str z) κ = some (decide (10 ∈ LT.tl z)) := by
  have e : Str.ofString "\n" = ⟨#[10]⟩ := by decide +kernel
  rw [e]
  first | rfl | exact wp_rfl rfl
theorem readf_n {z : Str} (hz : z.length ≤ 1000) (hf : FlatS κ) : I3.run tb.pgm (n + 5) "read_field" [.str z] κ = .ok (fldD (rfld z)) κ := by
  refine wp_eq (wp_def [some (.str z), none, none, none] .tree _ p_read_field rfl rfl rfl rfl (ss_if' ?_))
  simp only [t_cmp, w_cmp, w_str, w_var, List.getElem?_cons_zero, wp_ok, o_inn, nl_in, tr_bl, decide_eq_true_eq]
  unfold rfld
  by_cases hnl : 10 ∈ LT.tl z
  · rw [if_pos hnl, if_pos hnl]
    refine ss_ret' ?_
    simp only [w_non]
    rw [e_tree' rfl]
    first | exact ⟨rfl, rfl⟩ | (simp only [w_non, e_keep, wp_ok]; exact ⟨rfl, rfl⟩) | (simp only [w_non, e_keep, wp_ok, optN, optD, and_self]; done) | (simp [optN, optD]; done)
  rw [if_neg hnl, if_neg hnl]
  refine ss_nil' ?_
  refine ss_asg' ?_
  have hty : ∀ Q : Unit → Store → Prop, wp (opTy .split2 (.str z) κ) Q = Q () κ := fun Q => wp_rfl rfl
  simp only [w_bm, w_var, w_cons, w_str, w_int, w_nil, List.getElem?_cons_zero, wp_ok, hty, o_split hz]
  have hsh : ∀ p ∈ LT.splL 32 4 (LT.tl z), (LT.mkS p).length ≤ 1000 := fun p hp => by
    have h1 := LT.splL_short hp
    have h2 : (LT.tl z).length = z.length := LT.tl_len
    rw [LT.mkS_len]
    omega
  generalize hL : LT.splL 32 4 (LT.tl z) = L at hsh
  refine ss_if' ?_
  have fin : wp (endD κ.length .tree (.ret .non) κ) (fun a κ2 => a = D.non ∧ κ2 = κ) := by
    rw [e_tree' rfl]
    first | exact ⟨rfl, rfl⟩ | (simp only [w_non, e_keep, wp_ok]; exact ⟨rfl, rfl⟩) | (simp only [w_non, e_keep, wp_ok, optN, optD, and_self]; done) | (simp [optN, optD]; done)
  -- the number, the kind
  have mid : ∀ (a b c : List Nat) (rest : List (List Nat)) (five : Option (List Nat)), (∀ p ∈ a :: b :: c :: rest, (LT.mkS p).length ≤ 1000) → (five = none → rest.length = 0) → (∀ f, five = some f → ∃ e, rest = [e, f]) →
      wp (evSs (tb.pgm.gam (n + 4)) (F_read_field.body.drop 3) [some (.str z), some (.lst ((a :: b :: c :: rest).map fun l => D.str (LT.mkS l))), none, none] κ) fun fl κ' => wp (endD κ.length .tree fl κ') fun r κ2 =>
        r = fldD (match rdig 19 a, kindOf c with
          | some v, some k => (match five with
            | none => fldOf v (LT.mkS b) k .non
            | some f => (match rpre k (LT.mkS f) with
              | some d => fldOf v (LT.mkS b) k d
              | none => none))
          | _, _ => none) ∧ κ2 = κ := by
    intro a b c rest five hs h3 h5
    refine ss_asg' ?_
    have s0 : ∀ (κ : Store) (Q : D → Store → Prop), wp (opSub (.lst ((a :: b :: c :: rest).map fun l => D.str (LT.mkS l))) (.int 0) κ) Q = Q (.str (LT.mkS a)) κ := fun κ Q => o_subL (at_nat (k := 0) rfl)
    have s2 : ∀ (κ : Store) (Q : D → Store → Prop), wp (opSub (.lst ((a :: b :: c :: rest).map fun l => D.str (LT.mkS l))) (.int 2) κ) Q = Q (.str (LT.mkS c)) κ := fun κ Q => o_subL (at_nat (k := 2) rfl)
    have ha := hs a (by simp)
    have hb := hs b (by simp)
    have hc := hs c (by simp)
    simp only [w_call, w_cons, w_sub, w_var, w_int, w_nil, List.getElem?_cons_zero, List.getElem?_cons_succ, wp_ok, s0, gam_call, digits_n ha, LT.tl_mkS, List.set_cons_zero, List.set_cons_succ]
    refine ss_if' ?_
    cases hv : rdig 19 a with
    | none =>
      simp only [optN, t_or, t_cmp, w_cmp, w_var, w_non, List.getElem?_cons_zero, List.getElem?_cons_succ, wp_ok, o_isn, isNonD, tr_bl, if_true]
      exact ss_ret' (by rw [w_non]; exact fin)
    | some v =>
      have hin : inD (.str (LT.mkS c)) (.tup [.str "small", .str "whole", .str "signed", .str "text"]) κ = some (kindB (.str (LT.mkS c))) := kindB_all
      have ht : ∀ Q : Bool → Store → Prop, wp (evT (tb.pgm.gam (n + 4)) (.or (.cmp .isn (.var 2) .non) (.one (.cmp .ntn (.sub (.var 1) (.int 2)) (.cat ("Kind" : Str) ("ALL" : Str))))) [some (.str z), some (.lst ((a :: b :: c :: rest).map fun l => D.str (LT.mkS l))), some (.int (v : Int)), none] κ) Q = Q (!kindB (.str (LT.mkS c))) κ := fun Q => by
        simp only [t_or, t_cmp, w_cmp, w_var, w_non, List.getElem?_cons_zero, List.getElem?_cons_succ, wp_ok, o_isn, isNonD, tr_bl, t_one, w_sub, w_int, s2, w_cat, gam_cat, c_Kind_ALL, o_ntn, hin, Bool.false_eq_true, if_false]
      show wp (evT (tb.pgm.gam (n + 4)) _ [some (.str z), some (.lst ((a :: b :: c :: rest).map fun l => D.str (LT.mkS l))), some (.int (v : Int)), none] κ) _
      rw [ht]
      cases hk : kindOf c with
      | none =>
        have : kindB (.str (LT.mkS c)) = false := kindOf_none (by rw [LT.tl_mkS]; exact hk)
        rw [this]
        simp only [Bool.not_false, if_true]
        exact ss_ret' (by rw [w_non]; exact fin)
      | some k =>
        obtain ⟨hks, ek⟩ := kindOf_ok (z := LT.mkS c) (k := k) (by rw [LT.tl_mkS]; exact hk)
        have : kindB (.str (LT.mkS c)) = true := by rw [ek]; exact kindB_s hks
        rw [this]
        simp only [Bool.not_true, Bool.false_eq_true, if_false]
        refine ss_nil' ?_
        refine ss_asg' ?_
        try simp only [w_non, List.set_cons_zero, List.set_cons_succ]
        refine ss_if' ?_
        have hlen : ∀ Q : D → Store → Prop, wp (opF1 .len (.lst ((a :: b :: c :: rest).map fun l => D.str (LT.mkS l))) κ) Q = Q (.int ((rest.length + 3 : Nat) : Int)) κ := fun Q => by
          rw [o_lenL, List.length_map]
          first | rfl | exact wp_rfl rfl
        simp only [t_cmp, w_cmp, w_f1, w_var, w_int, List.getElem?_cons_zero, List.getElem?_cons_succ, wp_ok, hlen, o_eq, eqS]
        try simp only [wp_ok, tr_bl]
        have e1 : ((a :: b :: c :: rest).map fun l => D.str (LT.mkS l))[1]? = some (.str (LT.mkS b)) := rfl
        have e2 : ((a :: b :: c :: rest).map fun l => D.str (LT.mkS l))[2]? = some (.str (Str.ofString k)) := by
          show some (D.str (LT.mkS c)) = _
          rw [ek]
        cases five with
        | none =>
          have hr0 := h3 rfl
          have : ¬ (((rest.length + 3 : Nat) : Int) = 5) := by omega
          simp only [this, decide_false, Bool.false_eq_true, if_false]
          refine ss_nil' ?_
          exact try_ok hks hb .non hf e1 e2
        | some f =>
          obtain ⟨e, er⟩ := h5 f rfl
          subst er
          have hf4 := hs f (by simp)
          have s4 : ∀ (Q : D → Store → Prop), wp (opSub (.lst ((a :: b :: c :: [e, f]).map fun l => D.str (LT.mkS l))) (.int 4) κ) Q = Q (.str (LT.mkS f)) κ := fun Q => o_subL (at_nat (k := 4) rfl)
          have : (((([e, f] : List (List Nat)).length + 3 : Nat) : Int) = 5) := rfl
          simp only [this, decide_true, if_true]
          refine ss_asg' ?_
          have hpr := preset_n (n := n + 2) (κ := κ) (z := LT.mkS f) hks hf4
          simp only [w_call, w_cons, w_sub, w_var, w_int, w_nil, List.getElem?_cons_zero, List.getElem?_cons_succ, wp_ok, s2, s4, ek, gam_call, hpr, List.set_cons_zero, List.set_cons_succ]
          refine ss_if' ?_
          simp only [t_cmp, w_cmp, w_var, w_non, List.getElem?_cons_zero, List.getElem?_cons_succ, wp_ok, o_isn, tr_bl]
          cases hd : rpre k (LT.mkS f) with
          | none =>
            simp only [optD, isNonD, if_true]
            exact ss_ret' (by rw [w_non]; exact fin)
          | some d =>
            have hg := rpre_good hf4 hd
            have hnn : isNonD d = false := by
              unfold rpre at hd
              split at hd
              · cases hd; rfl
              · split at hd
                · split at hd
                  · cases hd; rfl
                  · cases hd
                · cases hr : rdig 19 (LT.tl (LT.mkS f)) with
                  | none => rw [hr] at hd; cases hd
                  | some v => rw [hr] at hd; cases hd; rfl
            simp only [optD, hnn, Bool.false_eq_true, if_false]
            refine ss_nil' ?_
            refine ss_nil' ?_
            exact try_ok hks hb hg hf e1 e2
  have s3 : ∀ (xs : List D) (d : D) (Q : D → Store → Prop), xs[3]? = some d → wp (opSub (.lst xs) (.int 3) κ) Q = Q d κ := fun xs d Q h => o_subL (at_nat (k := 3) h)
  have bad : ∀ (xs : List D), (xs.length ≠ 3 ∧ xs.length ≠ 5) → wp (evT (tb.pgm.gam (n + 4)) (.and (.cmp .ne (.f1 .len (.var 1)) (.int 3)) (.one (.or (.cmp .ne (.f1 .len (.var 1)) (.int 5)) (.one (.cmp .ne (.sub (.var 1) (.int 3)) (.str ("=" : Str))))))) [some (.str z), some (.lst xs), none, none] κ) fun t κ' => t = true ∧ κ' = κ := fun xs h => by
    have a1 : ¬ ((xs.length : Int) = 3) := by omega
    have a2 : ¬ ((xs.length : Int) = 5) := by omega
    simp [eqS, a1, a2]
  match L, hL, hsh with
  | [a, b, c], hL, hs =>
    have t3 : wp (evT (tb.pgm.gam (n + 4)) (.and (.cmp .ne (.f1 .len (.var 1)) (.int 3)) (.one (.or (.cmp .ne (.f1 .len (.var 1)) (.int 5)) (.one (.cmp .ne (.sub (.var 1) (.int 3)) (.str ("=" : Str))))))) [some (.str z), some (.lst ([a, b, c].map fun l => D.str (LT.mkS l))), none, none] κ) fun t κ' => t = false ∧ κ' = κ := by
      simp [eqS]
    refine wp_mono t3 fun t κ1 ⟨e1, e2⟩ => ?_
    subst e1 e2
    simp only [Bool.false_eq_true, if_false]
    refine ss_nil' ?_
    exact mid a b c [] none hs (fun _ => rfl) (fun f h => by cases h)
  | [a, b, c, e, f], hL, hs =>
    have he3 : ((LT.mkS e) = Str.ofString "=") ↔ e = [61] := by
      have e0 : Str.ofString "=" = LT.mkS [61] := by decide +kernel
      rw [e0]
      constructor
      · intro h
        have := congrArg LT.tl h
        rwa [LT.tl_mkS, LT.tl_mkS] at this
      · rintro rfl
        first | rfl | exact wp_rfl rfl
    have t5 : wp (evT (tb.pgm.gam (n + 4)) (.and (.cmp .ne (.f1 .len (.var 1)) (.int 3)) (.one (.or (.cmp .ne (.f1 .len (.var 1)) (.int 5)) (.one (.cmp .ne (.sub (.var 1) (.int 3)) (.str ("=" : Str))))))) [some (.str z), some (.lst ([a, b, c, e, f].map fun l => D.str (LT.mkS l))), none, none] κ) fun t κ' => t = !decide (e = [61]) ∧ κ' = κ := by
      have s3' : ∀ Q : D → Store → Prop, wp (opSub (.lst ([a, b, c, e, f].map fun l => D.str (LT.mkS l))) (.int 3) κ) Q = Q (.str (LT.mkS e)) κ := fun Q => s3 _ _ Q rfl
      have hl5 : ∀ Q : D → Store → Prop, wp (opF1 .len (.lst ([a, b, c, e, f].map fun l => D.str (LT.mkS l))) κ) Q = Q (.int 5) κ := fun Q => wp_rfl rfl
      simp only [t_and, t_or, t_one, t_cmp, w_cmp, w_f1, w_var, w_int, w_sub, w_str, List.getElem?_cons_zero, List.getElem?_cons_succ, wp_ok, hl5, o_ne, eqS, s3', tr_bl]
      simp [he3]
    refine wp_mono t5 fun t κ1 ⟨e1, e2⟩ => ?_
    subst e1 e2
    by_cases h61 : e = [61]
    · rw [decide_eq_true h61]
      simp only [Bool.not_true, Bool.false_eq_true, if_false, h61, if_true]
      refine ss_nil' ?_
      rw [h61] at hs
      exact mid a b c [[61], f] (some f) hs (fun h => by cases h) (fun f' h => by cases h; exact ⟨_, rfl⟩)
    · rw [decide_eq_false h61]
      simp only [Bool.not_false, if_true, h61, if_false]
      exact ss_ret' (by rw [w_non]; exact fin)
  | [], _, _ => exact wp_ifT (bad _ (by decide)) (ss_ret' (by rw [w_non]; exact fin))
  | [a], _, _ => exact wp_ifT (bad _ (by simp)) (ss_ret' (by rw [w_non]; exact fin))
  | [a, b], _, _ => exact wp_ifT (bad _ (by simp)) (ss_ret' (by rw [w_non]; exact fin))
  | [a, b, c, d], _, _ => exact wp_ifT (bad _ (by simp)) (ss_ret' (by rw [w_non]; exact fin))
  | a :: b :: c :: d :: e :: f :: r, _, _ => exact wp_ifT (bad _ (by simp)) (ss_ret' (by rw [w_non]; exact fin))
end

end My

set_option Elab.async false
set_option linter.all false
set_option maxRecDepth 100000
set_option maxHeartbeats 1000000
namespace My
open PySem PyProof.Rows I3
/-! the draws of the laws k61 to k65: _law_text, _law_value -/
/-- signs that are shown -/
def visD : D → Prop
  | .str s => ∀ c ∈ s.cps.toList, 32 ≤ c ∧ c < 127
  | _ => True
section
variable {n j m : Nat} {κ : Store} {Q : D → Store → Prop}
/-- signs drawn from a text -/
theorem signsV {z : Str} {k m : Nat} {κ : Store} {ρ : Env'} {t : Nat} {own : List Nat} {e : E} {Q : D → Store → Prop} (he : ∀ (d : D) (κ : Store) (QQ : D → Store → Prop), wp (I3.run tb.pgm (n + 2) "_law_pick" [.cell j, .str z] κ) QQ → wp (ev (tb.pgm.gam (n + 2)) e ((wipeE ρ own).set t (some d)) κ) QQ) (hz : 0 < z.length ∧ z.length < 1000000) (hk : k ≤ 1000) (hd : DeckAt κ j m) (hm : m < 50000000)
    (h : ∀ (cs : List Nat) (κ' : Store), cs.length = k → (∀ c ∈ cs, c ∈ z.cps.toList) → Drawn κ j (m + k) κ' → Q (.lst (cs.map fun c => D.str ⟨#[c]⟩)) κ') :
    wp (compL (.fix (rangeD 0 k)) (cstep (tb.pgm.gam (n + 2)) (.nm t) own [] e ρ) (rangeD 0 k).length [] κ) fun ds κ' => Q (.lst ds) κ' := by
  refine wp_comp (fun i acc κ' => (∃ cs : List Nat, acc = cs.map (fun c => D.str ⟨#[c]⟩) ∧ (∀ c ∈ cs, c ∈ z.cps.toList) ∧ cs.length = i) ∧ Drawn κ j (m + i) κ') ⟨⟨[], rfl, by simp, rfl⟩, Drawn.refl hd⟩ (fun i d acc κ' hi ⟨⟨cs, e1, e2, e3⟩, dr⟩ => ?_) (fun acc κ' ⟨⟨cs, e1, e2, e3⟩, dr⟩ => ?_)
  · obtain ⟨hi, rfl⟩ := rangeD_get hi
    simp only [cstep, bindT, w_c0, wp_bind]
    refine he _ _ _ ?_
    refine pickS dr.1 (by omega) hz fun c hc κ2 d2 => ?_
    have hm : ∀ y ∈ cs ++ [c], y ∈ z.cps.toList := fun y hy => by
      rcases List.mem_append.mp hy with hy | hy
      · exact e2 y hy
      · rw [List.mem_singleton.mp hy]; exact hc
    exact wp_pure rfl ⟨⟨cs ++ [c], by rw [e1]; simp, hm, by simp [e3]⟩, dr.trans d2⟩
  · rw [rangeD_len] at e3 dr
    rw [e1]
    exact h cs κ' e3 e2 dr
def visS : Str := " !\"#$&'()*+,-./0123456789:;<=>?@ABCDEFGHIJKLMNOPQRSTUVWXYZ[\\]^_`abcdefghijklmnopqrstuvwxyz{|}~"
theorem visS_len : visS.length = 94 := by decide +kernel
theorem visS_ok : ∀ c ∈ visS.cps.toList, 32 ≤ c ∧ c < 127 := by decide +kernel
theorem text_body : F__law_text.body = [.asg (.nm 2) (.str visS), .ret (.join (.str ("" : Str)) (.comp (.nm 3) (.rng1 (.var 1)) [] (.call ("_law_pick" : Str) [.var 0, .var 2]) [3]))] := rfl
theorem text_ok {k : Nat} (hk : k ≤ 1000) (hd : DeckAt κ j m) (hm : m < 10000000) (h : ∀ (cs : List Nat) κ', cs.length = k → (∀ c ∈ cs, 32 ≤ c ∧ c < 127) → Drawn κ j (m + k) κ' → Q (.str ⟨cs.toArray⟩) κ') : wp (I3.run tb.pgm (n + 3) "_law_text" [.cell j, .int (k : Int)] κ) Q := by
  refine wp_def [some (.cell j), some (.int (k : Int)), none, none] .keep _ p__law_text rfl rfl rfl text_body ?_
  refine ss_asg' ?_
  rw [w_str]
  refine ss_ret' ?_
  show wp (ev (tb.pgm.gam (n + 2)) _ [some (.cell j), some (.int (k : Int)), some (.str visS), none] κ) _
  simp only [w_join, w_str, wp_bind, w_comp, w_rng1, w_var, List.getElem?_cons_zero, List.getElem?_cons_succ, wp_ok]
  rw [if_pos ⟨by omega, by omega⟩]
  simp only [wp_ok, len_fix, Int.toNat_natCast]
  refine wp_if (by rw [rangeD_len]; omega) ?_
  have hz : 0 < visS.length ∧ visS.length < 1000000 := by rw [visS_len]; omega
  have hm1 : m < 50000000 := by omega
  refine signsV (z := visS) (k := k) (t := 3) (ρ := [some (.cell j), some (.int (k : Int)), some (.str visS), none]) (own := [3]) (fun d κ QQ hq => ?_) hz hk hd hm1 (Q := fun x κ' => wp (opJoin (.str "") x κ') _) fun cs κ2 hl hc d2 => ?_
  · simp only [w_call, w_cons, w_nil, w_var, wipeE, List.set_cons_zero, List.set_cons_succ, List.getElem?_cons_zero, List.getElem?_cons_succ, wp_ok, gam_call]
    exact hq
  · refine join_ok (by omega) ?_
    simp only [e_keep]
    exact h cs κ2 hl (fun c hx => visS_ok c (hc c hx)) d2
theorem value_ok {k : String} (hk : kindS k) (hd : DeckAt κ j m) (hm : m < 1000000) (h : ∀ d κ', Good d → dueB k d = true → visD d → Drawn κ j (m + 100) κ' → Q d κ') : wp (I3.run tb.pgm (n + 4) "_law_value" [.cell j, .str k] κ) Q := by
  refine wp_def [some (.cell j), some (.str k), none, none] .keep _ p__law_value rfl rfl rfl rfl (ss_if' ?_)
  by_cases hkt : k = "text"
  · subst hkt
    simp [eqS, ofString_inj]
    refine ss_ret' ?_
    simp
    refine pick (P := fun x => ∃ k : Nat, k ≤ 60 ∧ x = .int (k : Int)) (all_cons ⟨0, by omega, rfl⟩ (all_cons ⟨1, by omega, rfl⟩ (all_cons ⟨2, by omega, rfl⟩ (all_cons ⟨5, by omega, rfl⟩ (all_cons ⟨59, by omega, rfl⟩ (all_cons ⟨60, by omega, rfl⟩ all_nil)))))) hd (by omega) (by simp) fun x κ1 ⟨k, hk, ex⟩ d1 => ?_
    subst ex
    refine text_ok (by omega) d1.1 (by omega) fun cs κ2 hl hc d2 => ?_
    have hlen : (⟨cs.toArray⟩ : Str).length = cs.length := by show cs.toArray.size = _; rw [List.size_toArray]
    refine h _ _ (.str _ (by rw [hlen]; omega)) ?_ ?_ ((d1.trans d2).mono (by omega))
    · simp [dueB, hlen]
      omega
    · intro c hx
      have hc' : c ∈ cs := by
        have : (⟨cs.toArray⟩ : Str).cps.toList = cs := List.toList_toArray
        rwa [this] at hx
      exact hc c hc'
  · simp [eqS, ofString_inj, hkt]
    refine ss_nil' ?_
    refine ss_asg' ?_
    have key : ∀ top : Int, (255 ≤ top ∧ top ≤ 1000000000000000000) → (∀ v, 0 ≤ v → v ≤ top → dueB k (.int v) = true) → (k = "signed" → ∀ v, 0 ≤ v → v ≤ top → dueB k (.int (-v)) = true) →
        wp (evSs (tb.pgm.gam (n + 3)) (F__law_value.body.drop 2) [some (.cell j), some (.str k), some (.int top), none] κ) fun fl κ' => wp (endD κ.length .keep fl κ') Q := by
      intro top ht hr hs
      refine ss_asg' ?_
      simp
      refine draw p__law_draw hd (by omega) ⟨by omega, by unfold big; omega⟩ fun r1 κ1 a1 b1 d1 => ?_
      refine draw p__law_draw d1.1 (by omega) ⟨by omega, by unfold big; omega⟩ fun r2 κ2 a2 b2 d2 => ?_
      have mk : ∀ v : Int, 0 ≤ v → v ≤ top → ∃ w : Int, D.int v = .int w ∧ 0 ≤ w ∧ w ≤ top := fun v h1 h2 => ⟨v, rfl, h1, h2⟩
      refine pick (P := fun x => ∃ v : Int, x = .int v ∧ 0 ≤ v ∧ v ≤ top) (all_cons (mk _ (by omega) (by omega)) (all_cons (mk _ (by omega) (by omega)) (all_cons (mk _ (by omega) (by omega)) (all_cons (mk _ (by omega) (by omega)) (all_cons (mk _ (by omega) (by omega)) (all_cons (mk _ (by omega) (by omega)) (all_cons (mk _ (by omega) (by omega)) (all_cons (mk _ (by omega) (by omega)) all_nil)))))))) d2.1 (by omega) (by simp) fun x κ3 ⟨v, ex, hv0, hv1⟩ d3 => ?_
      subst ex
      refine ss_ret' ?_
      have d03 := (d1.trans d2).trans d3
      simp [eqS, ofString_inj]
      split
      · rename_i hsg
        refine draw p__law_draw d3.1 (by omega) ⟨by omega, by unfold big; omega⟩ fun r4 κ4 a4 b4 d4 => ?_
        have d04 := d03.trans d4
        simp [eqS]
        split
        · exact h _ _ (.int _) (hs hsg v hv0 hv1) trivial (d04.mono (by omega))
        · exact h _ _ (.int _) (hr v hv0 hv1) trivial (d04.mono (by omega))
      · exact h _ _ (.int _) (hr v hv0 hv1) trivial (d03.mono (by omega))
    have p1 : (0 : Int) ≤ 18 ∧ (18 : Int) ≤ 100 := by omega
    have p2 : -18446744073709551616 < (10 : Int) ∧ (10 : Int) < 18446744073709551616 := by omega
    simp [eqS, ofString_inj, o_pow p1 p2]
    rcases hk with rfl | rfl | rfl | rfl
    · simp
      exact key 255 (by omega) (fun v h0 h1 => by simp [dueB]; omega) (fun e => by simp at e)
    · simp
      exact key 1000000000000000000 (by omega) (fun v h0 h1 => by simp [dueB]; omega) (fun e => by simp at e)
    · simp
      exact key 1000000000000000000 (by omega) (fun v h0 h1 => by simp [dueB]; omega) (fun e v h0 h1 => by simp [dueB]; omega)
    · exact absurd rfl hkt
end

end My

set_option Elab.async false
set_option linter.all false
set_option maxRecDepth 100000
set_option maxHeartbeats 1000000
namespace My
open PySem PyProof.Rows I3
--hb 1000000
/-! _law_row, _law_line, _law_made; a line is read as its field (k61, k62, k93) -/
section
variable {n j m : Nat} {κ : Store} {Q : D → Store → Prop} {p q : P4}
theorem row_ok (hd : DeckAt κ j m) (hm : m < 100000) (h : ∀ (p : P4) κ', p.Ok → visD p.pre → Drawn κ j (m + 200) κ' → Q (.tup p.ds) κ') : wp (I3.run tb.pgm (n + 5) "_law_row" [.cell j] κ) Q := by
  refine wp_def [some (.cell j), none, none, none] .keep _ p__law_row rfl rfl rfl rfl (ss_asg' ?_)
  simp
  refine pick (P := fun x => ∃ k : String, kindS k ∧ x = .str k) (all_cons ⟨_, .inl rfl, rfl⟩ (all_cons ⟨_, .inr (.inl rfl), rfl⟩ (all_cons ⟨_, .inr (.inr (.inl rfl)), rfl⟩ (all_cons ⟨_, .inr (.inr (.inr rfl)), rfl⟩ all_nil)))) hd (by omega) (by simp) fun x κ4 ⟨k, hk, ex⟩ d4 => ?_
  subst ex
  refine ss_asg' ?_
  simp
  refine draw p__law_draw d4.1 (by omega) ⟨by omega, by unfold big; omega⟩ fun r1 κ1 a1 b1 d1 => ?_
  simp
  have mk : ∀ v : Int, 1 ≤ v → v ≤ 999999 → ∃ w : Int, D.int v = .int w ∧ 1 ≤ w ∧ w ≤ 999999 := fun v h1 h2 => ⟨v, rfl, h1, h2⟩
  refine pick (P := fun x => ∃ v : Int, x = .int v ∧ 1 ≤ v ∧ v ≤ 999999) (all_cons (mk _ (by omega) (by omega)) (all_cons (mk _ (by omega) (by omega)) (all_cons (mk _ (by omega) (by omega)) (all_cons (mk _ (by omega) (by omega)) (all_cons (mk _ (by omega) (by omega)) (all_cons (mk _ (by omega) (by omega)) (all_cons (mk _ (by omega) (by omega)) (all_cons (mk _ (by omega) (by omega)) all_nil)))))))) d1.1 (by omega) (by simp) fun x κ3 ⟨num, ex, n1, n2⟩ d3 => ?_
  subst ex
  have d03 := (d4.trans d1).trans d3
  have tail : ∀ (pd : D) (κ5 : Store), Good pd → presB k pd = true → visD pd → Drawn κ j (m + 150) κ5 → wp (evSs (tb.pgm.gam (n + 4)) (F__law_row.body.drop 3) [some (.cell j), some (.str k), some (.int num), some pd] κ5) fun fl κ' => wp (endD κ.length .keep fl κ') Q := fun pd κ5 gp bp tp d5 => by
    refine ss_ret' ?_
    simp
    refine word_ok d5.1 (by omega) fun z κ6 hz d6 => ?_
    have tx : txtOk pd := by
      cases pd with
      | str s => exact fun c hc => by have := tp c hc; omega
      | _ => trivial
    have := h ⟨num, z, k, pd⟩ κ6 ⟨⟨n1, n2⟩, hz, hk, gp, bp, tx⟩ tp ((d5.trans d6).mono (by omega))
    simpa [P4.ds] using this
  refine ss_asg' ?_
  simp
  refine draw p__law_draw d03.1 (by omega) ⟨by omega, by unfold big; omega⟩ fun r5 κ5 a5 b5 d5 => ?_
  have d05 := d03.trans d5
  simp
  split
  · refine value_ok hk d05.1 (by omega) fun pd κ6 gp bp tp d6 => ?_
    exact tail pd κ6 gp (by unfold presB; rw [bp, Bool.or_true]) tp ((d05.trans d6).mono (by omega))
  · exact tail .non κ5 .non rfl trivial (d05.mono (by omega))
@[simp] theorem t0 : wp (opSub (.tup p.ds) (.int 0) κ) Q = Q (.int p.num) κ := o_subT rfl
@[simp] theorem t1 : wp (opSub (.tup p.ds) (.int 1) κ) Q = Q (.str p.name) κ := o_subT rfl
@[simp] theorem t2 : wp (opSub (.tup p.ds) (.int 2) κ) Q = Q (.str p.kind) κ := o_subT rfl
@[simp] theorem t3 : wp (opSub (.tup p.ds) (.int 3) κ) Q = Q p.pre κ := o_subT rfl
theorem line_run (hp : p.Ok) : I3.run tb.pgm (n + 1) "_law_line" [.tup p.ds] κ = .ok (.str (lineF p)) κ := by
  have a := num_len hp
  have b := hp.len
  have c := kind_len hp.kind
  have l1 : (Str.ofString " ").length = 1 := by decide +kernel
  have l3 : (Str.ofString " = ").length = 3 := by decide +kernel
  refine wp_eq (wp_def [some (.tup p.ds), none] .keep _ p__law_line rfl rfl rfl rfl (ss_asg' ?_))
  have hl := line_len hp
  simp only [w_bin, w_f1, w_sub, w_var, w_int, w_str, wp_ok, List.getElem?_cons_zero, t0, t1, t2]
  rw [o_strI hp.nums, o_cat (by rw [l1]; omega), o_cat (by rw [str_len, l1]; omega), o_cat (by rw [str_len, str_len, l1]; omega), o_cat (by rw [str_len, str_len, str_len, l1]; omega)]
  refine ss_ret' ?_
  show wp (ev (tb.pgm.gam n) _ [some (.tup p.ds), some (.str (lineS p))] κ) _
  rcases hp.pres with e | ⟨v, e, hv⟩ | ⟨v, e, hv⟩
  · simp [e, isNonD, lineF]
  · simp [e, isNonD]
    have hv' : -big < v ∧ v < big := by unfold big; omega
    have := int_len hv'
    rw [o_cat (by rw [l3]; omega), o_strI hv', o_cat (by rw [str_len, l3]; omega)]
    simp [lineF, e, preS]
  · simp [e, isNonD]
    have es : ∀ Q : D → Store → Prop, wp (opF1 .str (.str v) κ) Q = Q (.str v) κ := fun Q => wp_rfl rfl
    rw [o_cat (by rw [l3]; omega), es, o_cat (by rw [str_len, l3]; omega)]
    simp [lineF, e, preS]
theorem made_run (hp : p.Ok) (hf : FlatS κ) : I3.run tb.pgm (n + 5) "_law_made" [.tup p.ds] κ = .ok p.fld κ := by
  refine wp_eq (wp_def [some (.tup p.ds)] .keep _ p__law_made rfl rfl rfl rfl (ss_ret' ?_))
  refine mk_fld hp hf ?_ ?_
  · simp only [w_cons, w_nil, w_sub, w_var, w_int, List.getElem?_cons_zero, wp_ok, t0, t1, t2, t3]
    exact ⟨rfl, trivial⟩
  · simp
/-! the line is read as the field -/
theorem dgs_no {v c : Nat} (h : c < 48 ∨ 57 < c) : c ∉ LT.dgs v := fun hc => by
  have := LT.dgs_all v c hc
  omega
theorem word_no {z : Str} {c : Nat} (hz : wordOk z = true) (h : c < 97 ∨ 122 < c) : c ∉ LT.tl z := fun hc => by
  unfold wordOk at hz
  rw [Bool.and_eq_true] at hz
  have h1 := of_decide_eq_true (List.all_eq_true.mp hz.2 c hc)
  have h2 : ∀ c ∈ letS.cps.toList, 97 ≤ c ∧ c ≤ 122 := by decide +kernel
  have := h2 c h1
  omega
theorem kind_no {k : String} {c : Nat} (hk : kindS k) (h : c < 97 ∨ 122 < c) : c ∉ LT.tl (Str.ofString k) := fun hc => by
  have h2 : ∀ c ∈ LT.tl (Str.ofString k), 97 ≤ c ∧ c ≤ 122 := by
    rcases hk with rfl | rfl | rfl | rfl <;> decide +kernel
  have := h2 c hc
  omega
theorem P4.Ok.nat (hp : p.Ok) : ∃ v : Nat, p.num = (v : Int) ∧ v < 10 ^ 19 := ⟨p.num.toNat, by have := hp.num; omega, by have := hp.num; omega⟩
theorem rpre_pre (hp : p.Ok) (hn : p.pre ≠ .non) : ∃ z : Str, preS p.pre = z ∧ rpre p.kind z = some p.pre := by
  refine ⟨_, rfl, ?_⟩
  rcases hp.pres with e | ⟨v, e, hv⟩ | ⟨v, e, hv⟩
  · exact absurd e hn
  · have hkt : p.kind ≠ "text" := fun hk => by
      have := hp.pre
      rw [e, hk] at this
      simp [presB, isNonD, dueB] at this
    rw [e]
    show rpre p.kind (Str.ofString (toString v)) = _
    unfold rpre
    rw [if_neg hkt]
    by_cases h0 : 0 ≤ v
    · obtain ⟨w, rfl⟩ := Int.eq_ofNat_of_zero_le h0
      rw [LT.tl_nat]
      have hd := rdig_dgs (n := w) (most := 19) (by decide) (by omega)
      split
      · rename_i r hr
        exact absurd (show 45 ∈ LT.dgs w by rw [hr]; exact List.mem_cons_self ..) (dgs_no (by omega))
      · rw [hd]
        rfl
    · obtain ⟨w, rfl⟩ : ∃ w : Nat, v = -((w + 1 : Nat) : Int) := ⟨(-v).toNat - 1, by omega⟩
      rw [LT.tl_neg (by omega)]
      have hd := rdig_dgs (n := w + 1) (most := 19) (by decide) (by omega)
      simp only [hd]
  · have hkt : p.kind = "text" := by
      have := hp.pre
      rw [e] at this
      simp [presB, isNonD, dueB] at this
      exact this.1
    rw [e]
    unfold rpre
    rw [if_pos hkt]
    rfl
theorem lineS_tl (hp : p.Ok) {v : Nat} (hv : p.num = (v : Int)) : LT.tl (lineS p) = LT.dgs v ++ 32 :: (LT.tl p.name ++ 32 :: LT.tl (Str.ofString p.kind)) := by
  have e : LT.tl (Str.ofString " ") = [32] := by decide +kernel
  unfold lineS
  rw [LT.tl_app, LT.tl_app, LT.tl_app, LT.tl_app, hv, LT.tl_nat, e]
  simp
theorem vis_no (hp : p.Ok) (hv : visD p.pre) : 10 ∉ LT.tl (preS p.pre) := fun hc => by
  rcases hp.pres with e | ⟨v, e, _⟩ | ⟨v, e, _⟩
  · rw [e] at hc
    exact absurd hc (by decide +kernel)
  · rw [e] at hc
    have hc' : 10 ∈ LT.tl (Str.ofString (toString v)) := hc
    by_cases h0 : 0 ≤ v
    · obtain ⟨w, rfl⟩ := Int.eq_ofNat_of_zero_le h0
      rw [LT.tl_nat] at hc'
      exact dgs_no (by omega) hc'
    · obtain ⟨w, rfl⟩ : ∃ w : Nat, v = -((w + 1 : Nat) : Int) := ⟨(-v).toNat - 1, by omega⟩
      rw [LT.tl_neg (by omega)] at hc'
      rcases List.mem_cons.mp hc' with h | h
      · omega
      · exact dgs_no (by omega) h
  · rw [e] at hc hv
    have := hv 10 hc
    omega
theorem rfld_line (hp : p.Ok) (hv : visD p.pre) : rfld (lineF p) = some p := by
  obtain ⟨v, ev, hv19⟩ := hp.nat
  have hd := rdig_dgs (n := v) (most := 19) (by decide) hv19
  have hs := lineS_tl hp ev
  have e3 : LT.tl (Str.ofString " = ") = [32, 61, 32] := by decide +kernel
  have nm : LT.mkS (LT.tl p.name) = p.name := LT.mkS_tl
  have ok : ∀ d, p.pre = d → fldOf v p.name p.kind d = some p := fun d e => by
    unfold fldOf
    have h1 : numB (.int (v : Int)) = true := by rw [← ev]; exact decide_eq_true hp.num
    have h2 := hp.name
    have h3 := hp.pre
    rw [e] at h3
    rw [h1, h2, h3, ← ev, ← e]
    rfl
  unfold rfld
  by_cases hn : p.pre = .non
  · have el : lineF p = lineS p := by unfold lineF; rw [hn]
    rw [el, hs]
    rw [if_neg (by
      simp only [List.mem_append, List.mem_cons, not_or]
      exact ⟨dgs_no (by omega), by omega, word_no hp.name (by omega), by omega, kind_no hp.kind (by omega)⟩)]
    rw [LT.splL_pre (dgs_no (by omega)), LT.splL_pre (word_no hp.name (by omega)), LT.splL_free (kind_no hp.kind (by omega))]
    simp only [hd, kindOf_s hp.kind, nm]
    exact ok _ hn
  · have el : lineF p = lineS p ++ Str.ofString " = " ++ preS p.pre := by
      unfold lineF
      split
      · exact absurd (by assumption) hn
      · rfl
    obtain ⟨z, ez, hz⟩ := rpre_pre hp hn
    have et : LT.tl (lineF p) = LT.dgs v ++ 32 :: (LT.tl p.name ++ 32 :: (LT.tl (Str.ofString p.kind) ++ 32 :: ([61] ++ 32 :: LT.tl (preS p.pre)))) := by
      rw [el, LT.tl_app, LT.tl_app, hs, e3]
      simp
    rw [et]
    rw [if_neg (by
      simp only [List.mem_append, List.mem_cons, not_or, List.not_mem_nil, not_false_eq_true]
      exact ⟨dgs_no (by omega), by omega, word_no hp.name (by omega), by omega, kind_no hp.kind (by omega), by omega, ⟨by omega, trivial⟩, by omega, vis_no hp hv⟩)]
    rw [LT.splL_pre (dgs_no (by omega)), LT.splL_pre (word_no hp.name (by omega)), LT.splL_pre (kind_no hp.kind (by omega)), LT.splL_pre (by simp), LT.splL_zero]
    simp only [hd, kindOf_s hp.kind, nm, if_true, LT.mkS_tl, ez, hz]
    exact ok _ rfl
theorem line_len2 (hp : p.Ok) : (lineF p).length ≤ 1000 := by
  have a := line_len hp
  have l3 : (Str.ofString " = ").length = 3 := by decide +kernel
  unfold lineF
  rcases hp.pres with e | ⟨v, e, hv⟩ | ⟨v, e, hv⟩
  · rw [e]
    show (lineS p).length ≤ 1000
    omega
  · rw [e]
    show (lineS p ++ Str.ofString " = " ++ Str.ofString (toString v)).length ≤ 1000
    have := int_len (j := v) (by unfold big; omega)
    rw [str_len, str_len, l3]
    omega
  · rw [e]
    show (lineS p ++ Str.ofString " = " ++ v).length ≤ 1000
    rw [str_len, str_len, l3]
    omega
theorem read_line (hp : p.Ok) (hv : visD p.pre) (hf : FlatS κ) : I3.run tb.pgm (n + 5) "read_field" [.str (lineF p)] κ = .ok p.fld κ := by
  rw [readf_n (line_len2 hp) hf, rfld_line hp hv]
  rfl
end

end My

set_option Elab.async false
set_option linter.all false
set_option maxRecDepth 100000
set_option maxHeartbeats 1000000
namespace My
open PySem PyProof.Rows I3
--hb 1000000
/-! texts that are put together; rows of such texts -/
section
variable {G : Gam} {ρ : Env'} {κ : Store} {a b e : E} {l m : List Nat} {n k B : Nat} {P : List Nat → Prop} {Q : D → Store → Prop}
/-- e is the text of these signs -/
def Tx (G : Gam) (e : E) (ρ : Env') (κ : Store) (l : List Nat) (n : Nat) : Prop := ev G e ρ κ = .ok (.str (LT.mkS l)) κ ∧ l.length ≤ n
theorem tx_wp {z : Str} (h : wp (ev G e ρ κ) fun d κ' => d = .str z ∧ κ' = κ) (hl : LT.tl z = l) (hz : z.length ≤ n) : Tx G e ρ κ l n := by
  subst hl
  exact ⟨by rw [wp_eq h, LT.mkS_tl], by rw [LT.tl_len]; exact hz⟩
theorem tx_str {z : Str} (h : LT.tl z = l) : Tx G (.str z) ρ κ l l.length :=
  tx_wp (by rw [w_str]; exact ⟨rfl, rfl⟩) h (by rw [← h, LT.tl_len]; exact Nat.le_refl _)
theorem tx_var {i : Nat} {z : Str} (h : ρ[i]? = some (some (.str z))) (hz : z.length ≤ n) : Tx G (.var i) ρ κ (LT.tl z) n :=
  tx_wp (z := z) (by rw [w_var, h]; exact wp_pure rfl ⟨rfl, rfl⟩) rfl hz
theorem tx_varL {i : Nat} (h : ρ[i]? = some (some (.str (LT.mkS l)))) (hz : l.length ≤ n) : Tx G (.var i) ρ κ l n :=
  tx_wp (z := LT.mkS l) (by rw [w_var, h]; exact wp_pure rfl ⟨rfl, rfl⟩) LT.tl_mkS (by rw [LT.mkS_len]; exact hz)
theorem tx_add (ha : Tx G a ρ κ l n) (hb : Tx G b ρ κ m k) (h : Nat.ble (n + k) 1000000 = true) : Tx G (.bin .add a b) ρ κ (l ++ m) (n + k) := by
  have h' := Nat.le_of_ble_eq_true h
  have h1 := ha.2
  have h2 := hb.2
  refine tx_wp (z := LT.mkS l ++ LT.mkS m) ?_ (by rw [LT.tl_app, LT.tl_mkS, LT.tl_mkS]) (by rw [str_len, LT.mkS_len, LT.mkS_len]; omega)
  rw [w_bin, ha.1, wp_ok, hb.1, wp_ok, o_cat (by rw [LT.mkS_len, LT.mkS_len]; omega)]
  exact ⟨rfl, rfl⟩
def tS (l : List Nat) : D := .str (LT.mkS l)
inductive Rows (B : Nat) (P : List Nat → Prop) (G : Gam) (ρ : Env') (κ : Store) : List E → Prop where
  | nil : Rows B P G ρ κ []
  | cons {e : E} {l : List Nat} {n : Nat} {es : List E} (h : Tx G e ρ κ l n) (hn : Nat.ble n B = true) (hs : P l) (r : Rows B P G ρ κ es) : Rows B P G ρ κ (e :: es)
theorem rows_L {es : List E} (h : Rows B P G ρ κ es) : ∃ ls : List (List Nat), evL G es ρ κ = .ok (ls.map tS) κ ∧ (∀ l ∈ ls, l.length ≤ B ∧ P l) ∧ ls.length = es.length := by
  induction h with
  | nil => exact ⟨[], rfl, by simp, rfl⟩
  | @cons e l n es h hn hs r ih =>
    obtain ⟨ls, e1, e2, e3⟩ := ih
    refine ⟨l :: ls, ?_, ?_, by rw [List.length_cons, List.length_cons, e3]⟩
    · refine wp_eq ?_
      rw [w_cons, h.1, wp_ok, e1, wp_ok]
      exact ⟨rfl, rfl⟩
    · intro x hx
      rcases List.mem_cons.mp hx with e | hx
      · subst e
        exact ⟨Nat.le_trans h.2 (Nat.le_of_ble_eq_true hn), hs⟩
      · exact e2 x hx
/-- such a list -/
def Fnd (B : Nat) (P : List Nat → Prop) (k : Nat) (x : D) : Prop := ∃ ls : List (List Nat), x = .lst (ls.map tS) ∧ (∀ l ∈ ls, l.length ≤ B ∧ P l) ∧ ls.length ≤ k
theorem Fnd.app {x y : D} (hx : Fnd B P n x) (hy : Fnd B P k y) (h : Nat.ble (n + k) 1000000 = true) (hq : ∀ z, Fnd B P (n + k) z → Q z κ) : wp (opBin .add x y κ) Q := by
  obtain ⟨ls, e1, e2, e3⟩ := hx
  obtain ⟨ms, f1, f2, f3⟩ := hy
  have h' := Nat.le_of_ble_eq_true h
  subst e1 f1
  have e : opBin .add (.lst (ls.map tS)) (.lst (ms.map tS)) κ = .ok (.lst ((ls ++ ms).map tS)) κ := by
    show (if (ls.map tS).length + (ms.map tS).length ≤ 16777216 then Res.ok (D.lst (ls.map tS ++ ms.map tS)) κ else .bad) = _
    rw [if_pos (by rw [List.length_map, List.length_map]; omega), List.map_append]
  rw [e, wp_ok]
  refine hq _ ⟨ls ++ ms, rfl, fun l hl => ?_, by rw [List.length_append]; omega⟩
  rcases List.mem_append.mp hl with hl | hl
  · exact e2 l hl
  · exact f2 l hl
theorem rows_lst {es : List E} (h : Rows B P G ρ κ es) (hl : Nat.ble es.length 1000000 = true) (hq : ∀ x, Fnd B P es.length x → Q x κ) : wp (ev G (.lst es) ρ κ) Q := by
  obtain ⟨ls, e1, e2, e3⟩ := rows_L h
  have hl' := Nat.le_of_ble_eq_true hl
  rw [w_lst, e1, wp_ok, if_pos (by rw [List.length_map]; omega), wp_ok]
  exact hq _ ⟨ls, rfl, e2, Nat.le_of_eq e3⟩
theorem comp_fnd {xs : List D} {t : Nat} {own : List Nat} {e : E} {Q : List D → Store → Prop} (h : ∀ d ∈ xs, ∃ l n, Tx G e ((wipeE ρ own).set t (some d)) κ l n ∧ n ≤ B ∧ P l) (hq : ∀ ls : List (List Nat), (∀ l ∈ ls, l.length ≤ B ∧ P l) → ls.length = xs.length → Q (ls.map tS) κ) : wp (compL (.fix xs) (cstep G (.nm t) own [] e ρ) xs.length [] κ) Q := by
  refine wp_comp (fun i acc κ' => κ' = κ ∧ ∃ ls : List (List Nat), acc = ls.map tS ∧ (∀ l ∈ ls, l.length ≤ B ∧ P l) ∧ ls.length = i) ⟨rfl, [], rfl, by simp, rfl⟩ (fun i d acc κ1 hi ⟨e1, ls, e2, e3, e4⟩ => ?_) fun acc κ1 ⟨e1, ls, e2, e3, e4⟩ => ?_
  · subst e1
    obtain ⟨l, n, h1, h2, h3⟩ := h d (List.mem_of_getElem? hi)
    simp only [cstep, bindT, w_c0, wp_bind]
    rw [h1.1, wp_ok]
    refine wp_pure rfl ⟨rfl, ls ++ [l], by rw [e2, List.map_append]; rfl, fun x hx => ?_, by rw [List.length_append, e4]; rfl⟩
    rcases List.mem_append.mp hx with hx | hx
    · exact e3 x hx
    · rw [List.mem_singleton.mp hx]
      exact ⟨Nat.le_trans h1.2 h2, h3⟩
  · subst e1 e2
    exact hq ls e3 e4
end

end My

set_option Elab.async false
set_option linter.all false
set_option maxRecDepth 100000
set_option maxHeartbeats 1000000
namespace My
open PySem PyProof.Rows I3
--hb 1000000
/-! lines that are no fields: the plain law -/
/-- the first list ahead of the first part -/
def preHd (a : List Nat) : List (List Nat) → List (List Nat)
  | [] => [a]
  | p :: ps => (a ++ p) :: ps
theorem splL_app {c k : Nat} : ∀ {a r : List Nat}, c ∉ a → LT.splL c k (a ++ r) = preHd a (LT.splL c k r)
  | [], r, _ => by
    obtain ⟨p, ps, e⟩ := LT.splL_ne c k r
    rw [List.nil_append, e]
    rfl
  | x :: a, r, h => by
    have h1 : ¬ x = c := fun e => h (by rw [e]; exact List.mem_cons_self ..)
    have ih := splL_app (k := k) (a := a) (r := r) (fun q => h (List.mem_cons_of_mem _ q))
    rw [List.cons_append, LT.splL_cons, if_neg (fun q => h1 q.1), ih]
    obtain ⟨p, ps, e⟩ := LT.splL_ne c k r
    rw [e]
    rfl
def parL : List (List Nat) → Option P4
  | [a, b, c] => (match rdig 19 a, kindOf c with
    | some v, some k => fldOf v (LT.mkS b) k .non
    | _, _ => none)
  | [a, b, c, e, f] => if e = [61] then (match rdig 19 a, kindOf c with
    | some v, some k => (match rpre k (LT.mkS f) with
      | some d => fldOf v (LT.mkS b) k d
      | none => none)
    | _, _ => none) else none
  | _ => none
theorem rfld_eq (z : Str) : rfld z = if 10 ∈ LT.tl z then none else parL (LT.splL 32 4 (LT.tl z)) := rfl
/-- no field's line -/
def NoF (l : List Nat) : Prop := 10 ∈ l ∨ parL (LT.splL 32 4 l) = none
theorem NoF.rfld {l : List Nat} (h : NoF l) : rfld (LT.mkS l) = none := by
  rw [rfld_eq, LT.tl_mkS]
  rcases h with h | h
  · rw [if_pos h]
  · rw [h]
    split <;> rfl
def NumBad (a : List Nat) : Prop := ∀ v, rdig 19 a = some v → ¬(1 ≤ v ∧ v ≤ 999999)
def badB (k : String) (w : List Nat) : Prop := match rpre k (LT.mkS w) with
  | none => True
  | some d => presB k d = false
theorem fld_num {v : Nat} {b : Str} {k : String} {d : D} (h : ¬(1 ≤ v ∧ v ≤ 999999)) : fldOf v b k d = none := by
  unfold fldOf
  have : numB (.int (v : Int)) = false := by
    unfold numB
    exact decide_eq_false (by omega)
  rw [this]
  rfl
theorem par_num3 {a b c : List Nat} (h : NumBad a) : parL [a, b, c] = none := by
  show (match rdig 19 a, kindOf c with | some v, some k => fldOf v (LT.mkS b) k .non | _, _ => none) = none
  cases e : rdig 19 a with
  | none => rfl
  | some v =>
    cases kindOf c with
    | none => rfl
    | some k => exact fld_num (h v e)
theorem par_name3 {a b c : List Nat} (h : wordOk (LT.mkS b) = false) : parL [a, b, c] = none := by
  show (match rdig 19 a, kindOf c with | some v, some k => fldOf v (LT.mkS b) k .non | _, _ => none) = none
  cases e : rdig 19 a with
  | none => rfl
  | some v =>
    cases kindOf c with
    | none => rfl
    | some k =>
      show fldOf v (LT.mkS b) k .non = none
      unfold fldOf
      rw [h, Bool.and_false, Bool.false_and]
      rfl
theorem par_kind3 {a b c : List Nat} (h : kindOf c = none) : parL [a, b, c] = none := by
  show (match rdig 19 a, kindOf c with | some v, some k => fldOf v (LT.mkS b) k .non | _, _ => none) = none
  rw [h]
  cases e : rdig 19 a <;> rfl
theorem par_eq5 {a b c e f : List Nat} (h : e ≠ [61]) : parL [a, b, c, e, f] = none := if_neg h
theorem par_pre5 {a b c e f : List Nat} {k : String} (hk : kindOf c = some k) (h : badB k f) : parL [a, b, c, e, f] = none := by
  show (if e = [61] then (match rdig 19 a, kindOf c with
    | some v, some k => (match rpre k (LT.mkS f) with
      | some d => fldOf v (LT.mkS b) k d
      | none => none)
    | _, _ => none) else none) = none
  rw [hk]
  split
  · cases e : rdig 19 a with
    | none => rfl
    | some v =>
      dsimp only
      unfold badB at h
      cases e2 : rpre k (LT.mkS f) with
      | none => rfl
      | some d =>
        rw [e2] at h
        dsimp only
        unfold fldOf
        rw [h, Bool.and_false]
        rfl
  · rfl
theorem num_mem {a : List Nat} {c : Nat} (h : c ∈ a) (hc : isDig c = false) : NumBad a := fun v e => by
  unfold rdig at e
  split at e
  · rename_i q
    have := List.all_eq_true.mp q.2.1 c h
    rw [hc] at this
    cases this
  · cases e
theorem num_nil : NumBad [] := fun v e => by cases e
theorem num_zero {a : List Nat} (h : a ≠ []) : NumBad (48 :: a) := fun v e => by
  unfold rdig at e
  split at e
  · rename_i q
    refine absurd ⟨rfl, ?_⟩ q.2.2
    cases a with
    | nil => exact absurd rfl h
    | cons x r => simp
  · cases e
theorem num_dgs {n : Nat} (h : 1000000 ≤ n) : NumBad (LT.dgs n) := fun v e => by
  unfold rdig at e
  split at e
  · rw [LT.dgs_val] at e
    cases e
    omega
  · cases e
theorem wd_mem {a : List Nat} {c : Nat} (h : c ∈ a) (hc : c < 97 ∨ 122 < c) : wordOk (LT.mkS a) = false := by
  cases e : wordOk (LT.mkS a) with
  | false => rfl
  | true => exact absurd (show c ∈ LT.tl (LT.mkS a) by rw [LT.tl_mkS]; exact h) (word_no e hc)
theorem wd_len {a : List Nat} (h : a.length = 0 ∨ 12 < a.length) : wordOk (LT.mkS a) = false := by
  unfold wordOk
  rw [LT.mkS_len]
  rw [decide_eq_false (by omega)]
  rfl
/-- the parts of a good line -/
structure R3 (N W K : List Nat) (k : String) : Prop where
  n32 : 32 ∉ N
  w32 : 32 ∉ W
  k32 : 32 ∉ K
  n0 : N ≠ []
  w0 : W ≠ []
  wl : ∀ c ∈ W, 97 ≤ c ∧ c ≤ 122
  kk : kindOf K = some k
/-- an odd sign -/
def OddS (o : List Nat) : Prop := (∃ c, o = [c] ∧ c ≠ 32 ∧ (c < 97 ∨ 122 < c)) ∨ o = [32, 97]
section
variable {N W K O T : List Nat} {k : String} {j n : Nat} (h : R3 N W K k)
include h
theorem w_dig : NumBad W := by
  obtain ⟨x, r, e⟩ : ∃ x r, W = x :: r := by
    cases W with
    | nil => exact absurd rfl h.w0
    | cons x r => exact ⟨x, r, rfl⟩
  have hx : x ∈ W := by rw [e]; exact List.mem_cons_self ..
  have := h.wl x hx
  exact num_mem hx (by unfold isDig; exact decide_eq_false (by omega))
theorem t32 : 32 ∉ W.take j := fun q => h.w32 (List.mem_of_mem_take q)
theorem s1 : NoF [] := by
  refine .inr ?_
  have e : LT.splL 32 4 [] = [[]] := by simp [NoF, LT.splL_cons, LT.splL_nil, splL_app h.n32, splL_app h.w32, splL_app h.k32, LT.splL_free h.n32, LT.splL_free h.w32, LT.splL_free h.k32, splL_app (t32 h), LT.splL_free (t32 h), preHd, LT.consHd, LT.splL_zero]
  rw [e]
  exact rfl
theorem s2 : NoF [32] := by
  refine .inr ?_
  have e : LT.splL 32 4 [32] = [[], []] := by simp [NoF, LT.splL_cons, LT.splL_nil, splL_app h.n32, splL_app h.w32, splL_app h.k32, LT.splL_free h.n32, LT.splL_free h.w32, LT.splL_free h.k32, splL_app (t32 h), LT.splL_free (t32 h), preHd, LT.consHd, LT.splL_zero]
  rw [e]
  exact rfl
theorem s3 : NoF N := by
  refine .inr ?_
  have e : LT.splL 32 4 N = [N] := by simp [NoF, LT.splL_cons, LT.splL_nil, splL_app h.n32, splL_app h.w32, splL_app h.k32, LT.splL_free h.n32, LT.splL_free h.w32, LT.splL_free h.k32, splL_app (t32 h), LT.splL_free (t32 h), preHd, LT.consHd, LT.splL_zero]
  rw [e]
  exact rfl
theorem s4 : NoF (N ++ [32]) := by
  refine .inr ?_
  have e : LT.splL 32 4 (N ++ [32]) = [N, []] := by simp [NoF, LT.splL_cons, LT.splL_nil, splL_app h.n32, splL_app h.w32, splL_app h.k32, LT.splL_free h.n32, LT.splL_free h.w32, LT.splL_free h.k32, splL_app (t32 h), LT.splL_free (t32 h), preHd, LT.consHd, LT.splL_zero]
  rw [e]
  exact rfl
theorem s5 : NoF ((N ++ [32]) ++ W) := by
  refine .inr ?_
  have e : LT.splL 32 4 ((N ++ [32]) ++ W) = [N, W] := by simp [NoF, LT.splL_cons, LT.splL_nil, splL_app h.n32, splL_app h.w32, splL_app h.k32, LT.splL_free h.n32, LT.splL_free h.w32, LT.splL_free h.k32, splL_app (t32 h), LT.splL_free (t32 h), preHd, LT.consHd, LT.splL_zero]
  rw [e]
  exact rfl
theorem s6 : NoF (((N ++ [32]) ++ W) ++ [32]) := by
  refine .inr ?_
  have e : LT.splL 32 4 (((N ++ [32]) ++ W) ++ [32]) = [N, W, []] := by simp [NoF, LT.splL_cons, LT.splL_nil, splL_app h.n32, splL_app h.w32, splL_app h.k32, LT.splL_free h.n32, LT.splL_free h.w32, LT.splL_free h.k32, splL_app (t32 h), LT.splL_free (t32 h), preHd, LT.consHd, LT.splL_zero]
  rw [e]
  exact par_kind3 (by decide +kernel)
theorem s7 : NoF ([32] ++ W ++ [32] ++ K) := by
  refine .inr ?_
  have e : LT.splL 32 4 ([32] ++ W ++ [32] ++ K) = [[], W, K] := by simp [NoF, LT.splL_cons, LT.splL_nil, splL_app h.n32, splL_app h.w32, splL_app h.k32, LT.splL_free h.n32, LT.splL_free h.w32, LT.splL_free h.k32, splL_app (t32 h), LT.splL_free (t32 h), preHd, LT.consHd, LT.splL_zero]
  rw [e]
  exact par_num3 num_nil
theorem s8 : NoF (([32] ++ N) ++ ([32] ++ W ++ [32] ++ K)) := by
  refine .inr ?_
  have e : LT.splL 32 4 (([32] ++ N) ++ ([32] ++ W ++ [32] ++ K)) = [[], N, W, K] := by simp [NoF, LT.splL_cons, LT.splL_nil, splL_app h.n32, splL_app h.w32, splL_app h.k32, LT.splL_free h.n32, LT.splL_free h.w32, LT.splL_free h.k32, splL_app (t32 h), LT.splL_free (t32 h), preHd, LT.consHd, LT.splL_zero]
  rw [e]
  exact rfl
theorem s9 : NoF (([48] ++ N) ++ ([32] ++ W ++ [32] ++ K)) := by
  refine .inr ?_
  have e : LT.splL 32 4 (([48] ++ N) ++ ([32] ++ W ++ [32] ++ K)) = [48 :: N, W, K] := by simp [NoF, LT.splL_cons, LT.splL_nil, splL_app h.n32, splL_app h.w32, splL_app h.k32, LT.splL_free h.n32, LT.splL_free h.w32, LT.splL_free h.k32, splL_app (t32 h), LT.splL_free (t32 h), preHd, LT.consHd, LT.splL_zero]
  rw [e]
  exact par_num3 (num_zero h.n0)
theorem sa0 : NoF (([43] ++ N) ++ ([32] ++ W ++ [32] ++ K)) := by
  refine .inr ?_
  have e : LT.splL 32 4 (([43] ++ N) ++ ([32] ++ W ++ [32] ++ K)) = [43 :: N, W, K] := by simp [NoF, LT.splL_cons, LT.splL_nil, splL_app h.n32, splL_app h.w32, splL_app h.k32, LT.splL_free h.n32, LT.splL_free h.w32, LT.splL_free h.k32, splL_app (t32 h), LT.splL_free (t32 h), preHd, LT.consHd, LT.splL_zero]
  rw [e]
  exact par_num3 (num_mem (List.mem_cons_self ..) (by decide))
theorem sa1 : NoF (([45] ++ N) ++ ([32] ++ W ++ [32] ++ K)) := by
  refine .inr ?_
  have e : LT.splL 32 4 (([45] ++ N) ++ ([32] ++ W ++ [32] ++ K)) = [45 :: N, W, K] := by simp [NoF, LT.splL_cons, LT.splL_nil, splL_app h.n32, splL_app h.w32, splL_app h.k32, LT.splL_free h.n32, LT.splL_free h.w32, LT.splL_free h.k32, splL_app (t32 h), LT.splL_free (t32 h), preHd, LT.consHd, LT.splL_zero]
  rw [e]
  exact par_num3 (num_mem (List.mem_cons_self ..) (by decide))
theorem sa2 : NoF (([120] ++ N) ++ ([32] ++ W ++ [32] ++ K)) := by
  refine .inr ?_
  have e : LT.splL 32 4 (([120] ++ N) ++ ([32] ++ W ++ [32] ++ K)) = [120 :: N, W, K] := by simp [NoF, LT.splL_cons, LT.splL_nil, splL_app h.n32, splL_app h.w32, splL_app h.k32, LT.splL_free h.n32, LT.splL_free h.w32, LT.splL_free h.k32, splL_app (t32 h), LT.splL_free (t32 h), preHd, LT.consHd, LT.splL_zero]
  rw [e]
  exact par_num3 (num_mem (List.mem_cons_self ..) (by decide))
theorem sa3 : NoF (([95] ++ N) ++ ([32] ++ W ++ [32] ++ K)) := by
  refine .inr ?_
  have e : LT.splL 32 4 (([95] ++ N) ++ ([32] ++ W ++ [32] ++ K)) = [95 :: N, W, K] := by simp [NoF, LT.splL_cons, LT.splL_nil, splL_app h.n32, splL_app h.w32, splL_app h.k32, LT.splL_free h.n32, LT.splL_free h.w32, LT.splL_free h.k32, splL_app (t32 h), LT.splL_free (t32 h), preHd, LT.consHd, LT.splL_zero]
  rw [e]
  exact par_num3 (num_mem (List.mem_cons_self ..) (by decide))
theorem s12 : NoF ([48] ++ ([32] ++ W ++ [32] ++ K)) := by
  refine .inr ?_
  have e : LT.splL 32 4 ([48] ++ ([32] ++ W ++ [32] ++ K)) = [[48], W, K] := by simp [NoF, LT.splL_cons, LT.splL_nil, splL_app h.n32, splL_app h.w32, splL_app h.k32, LT.splL_free h.n32, LT.splL_free h.w32, LT.splL_free h.k32, splL_app (t32 h), LT.splL_free (t32 h), preHd, LT.consHd, LT.splL_zero]
  rw [e]
  refine par_num3 fun v q => ?_
  have q2 : rdig 19 [48] = some 0 := by decide +kernel
  rw [q2] at q
  cases q
  omega
theorem s13 : NoF ([49, 48, 48, 48, 48, 48, 48] ++ ([32] ++ W ++ [32] ++ K)) := by
  refine .inr ?_
  have e : LT.splL 32 4 ([49, 48, 48, 48, 48, 48, 48] ++ ([32] ++ W ++ [32] ++ K)) = [[49, 48, 48, 48, 48, 48, 48], W, K] := by simp [NoF, LT.splL_cons, LT.splL_nil, splL_app h.n32, splL_app h.w32, splL_app h.k32, LT.splL_free h.n32, LT.splL_free h.w32, LT.splL_free h.k32, splL_app (t32 h), LT.splL_free (t32 h), preHd, LT.consHd, LT.splL_zero]
  rw [e]
  refine par_num3 fun v q => ?_
  have q2 : rdig 19 [49, 48, 48, 48, 48, 48, 48] = some 1000000 := by decide +kernel
  rw [q2] at q
  cases q
  omega
theorem s14 (hn : 1000000 ≤ n) : NoF (LT.dgs n ++ ([32] ++ W ++ [32] ++ K)) := by
  refine .inr ?_
  have hd : 32 ∉ LT.dgs n := dgs_no (by omega)
  have e : LT.splL 32 4 (LT.dgs n ++ ([32] ++ W ++ [32] ++ K)) = [LT.dgs n, W, K] := by simp [splL_app hd, NoF, LT.splL_cons, LT.splL_nil, splL_app h.n32, splL_app h.w32, splL_app h.k32, LT.splL_free h.n32, LT.splL_free h.w32, LT.splL_free h.k32, splL_app (t32 h), LT.splL_free (t32 h), preHd, LT.consHd, LT.splL_zero]
  rw [e]
  exact par_num3 (num_dgs hn)
theorem sb0 : NoF ((N ++ [46, 48]) ++ ([32] ++ W ++ [32] ++ K)) := by
  refine .inr ?_
  have e : LT.splL 32 4 ((N ++ [46, 48]) ++ ([32] ++ W ++ [32] ++ K)) = [N ++ [46, 48], W, K] := by simp [NoF, LT.splL_cons, LT.splL_nil, splL_app h.n32, splL_app h.w32, splL_app h.k32, LT.splL_free h.n32, LT.splL_free h.w32, LT.splL_free h.k32, splL_app (t32 h), LT.splL_free (t32 h), preHd, LT.consHd, LT.splL_zero]
  rw [e]
  exact par_num3 (num_mem (c := 46) (by simp) (by decide))
theorem sb1 : NoF ((N ++ [95, 48]) ++ ([32] ++ W ++ [32] ++ K)) := by
  refine .inr ?_
  have e : LT.splL 32 4 ((N ++ [95, 48]) ++ ([32] ++ W ++ [32] ++ K)) = [N ++ [95, 48], W, K] := by simp [NoF, LT.splL_cons, LT.splL_nil, splL_app h.n32, splL_app h.w32, splL_app h.k32, LT.splL_free h.n32, LT.splL_free h.w32, LT.splL_free h.k32, splL_app (t32 h), LT.splL_free (t32 h), preHd, LT.consHd, LT.splL_zero]
  rw [e]
  exact par_num3 (num_mem (c := 95) (by simp) (by decide))
theorem sb2 : NoF ((N ++ [95]) ++ ([32] ++ W ++ [32] ++ K)) := by
  refine .inr ?_
  have e : LT.splL 32 4 ((N ++ [95]) ++ ([32] ++ W ++ [32] ++ K)) = [N ++ [95], W, K] := by simp [NoF, LT.splL_cons, LT.splL_nil, splL_app h.n32, splL_app h.w32, splL_app h.k32, LT.splL_free h.n32, LT.splL_free h.w32, LT.splL_free h.k32, splL_app (t32 h), LT.splL_free (t32 h), preHd, LT.consHd, LT.splL_zero]
  rw [e]
  exact par_num3 (num_mem (c := 95) (by simp) (by decide))
theorem s21 : NoF ((((N ++ [32, 32]) ++ W) ++ [32]) ++ K) := by
  refine .inr ?_
  have e : LT.splL 32 4 ((((N ++ [32, 32]) ++ W) ++ [32]) ++ K) = [N, [], W, K] := by simp [NoF, LT.splL_cons, LT.splL_nil, splL_app h.n32, splL_app h.w32, splL_app h.k32, LT.splL_free h.n32, LT.splL_free h.w32, LT.splL_free h.k32, splL_app (t32 h), LT.splL_free (t32 h), preHd, LT.consHd, LT.splL_zero]
  rw [e]
  exact rfl
theorem s22 : NoF ((((N ++ [32]) ++ W) ++ [32, 32]) ++ K) := by
  refine .inr ?_
  have e : LT.splL 32 4 ((((N ++ [32]) ++ W) ++ [32, 32]) ++ K) = [N, W, [], K] := by simp [NoF, LT.splL_cons, LT.splL_nil, splL_app h.n32, splL_app h.w32, splL_app h.k32, LT.splL_free h.n32, LT.splL_free h.w32, LT.splL_free h.k32, splL_app (t32 h), LT.splL_free (t32 h), preHd, LT.consHd, LT.splL_zero]
  rw [e]
  exact rfl
theorem s23 : NoF (((N ++ [32]) ++ W) ++ K) := by
  refine .inr ?_
  have e : LT.splL 32 4 (((N ++ [32]) ++ W) ++ K) = [N, W ++ K] := by simp [NoF, LT.splL_cons, LT.splL_nil, splL_app h.n32, splL_app h.w32, splL_app h.k32, LT.splL_free h.n32, LT.splL_free h.w32, LT.splL_free h.k32, splL_app (t32 h), LT.splL_free (t32 h), preHd, LT.consHd, LT.splL_zero]
  rw [e]
  exact rfl
theorem s24 : NoF ((((N ++ [32]) ++ (W.take 6 ++ [97, 98, 99, 100, 101, 102, 103, 104, 105, 106, 107, 108, 109])) ++ [32]) ++ K) := by
  refine .inr ?_
  have e : LT.splL 32 4 ((((N ++ [32]) ++ (W.take 6 ++ [97, 98, 99, 100, 101, 102, 103, 104, 105, 106, 107, 108, 109])) ++ [32]) ++ K) = [N, W.take 6 ++ [97, 98, 99, 100, 101, 102, 103, 104, 105, 106, 107, 108, 109], K] := by simp [NoF, LT.splL_cons, LT.splL_nil, splL_app h.n32, splL_app h.w32, splL_app h.k32, LT.splL_free h.n32, LT.splL_free h.w32, LT.splL_free h.k32, splL_app (t32 h), LT.splL_free (t32 h), preHd, LT.consHd, LT.splL_zero]
  rw [e]
  exact par_name3 (wd_len (.inr (by simp)))
theorem s25 (ho : OddS O) : NoF (N ++ [32] ++ (W.take 11) ++ O ++ [32] ++ K) := by
  rcases ho with ⟨c, rfl, hc, hb⟩ | rfl
  · simp only [ne_eq] at hc
    refine .inr ?_
    have e : LT.splL 32 4 (N ++ [32] ++ (W.take 11) ++ [c] ++ [32] ++ K) = [N, W.take 11 ++ [c], K] := by simp [hc, NoF, LT.splL_cons, LT.splL_nil, splL_app h.n32, splL_app h.w32, splL_app h.k32, LT.splL_free h.n32, LT.splL_free h.w32, LT.splL_free h.k32, splL_app (t32 h), LT.splL_free (t32 h), preHd, LT.consHd, LT.splL_zero]
    rw [e]
    exact par_name3 (wd_mem (c := c) (by simp) hb)
  · refine .inr ?_
    have e : LT.splL 32 4 (N ++ [32] ++ (W.take 11) ++ [32, 97] ++ [32] ++ K) = [N, W.take 11, [97], K] := by simp [NoF, LT.splL_cons, LT.splL_nil, splL_app h.n32, splL_app h.w32, splL_app h.k32, LT.splL_free h.n32, LT.splL_free h.w32, LT.splL_free h.k32, splL_app (t32 h), LT.splL_free (t32 h), preHd, LT.consHd, LT.splL_zero]
    rw [e]
    rfl
theorem s26 (ho : OddS O) : NoF (N ++ [32] ++ O ++ (W.take 10) ++ [32] ++ K) := by
  rcases ho with ⟨c, rfl, hc, hb⟩ | rfl
  · simp only [ne_eq] at hc
    refine .inr ?_
    have e : LT.splL 32 4 (N ++ [32] ++ [c] ++ (W.take 10) ++ [32] ++ K) = [N, c :: W.take 10, K] := by simp [hc, NoF, LT.splL_cons, LT.splL_nil, splL_app h.n32, splL_app h.w32, splL_app h.k32, LT.splL_free h.n32, LT.splL_free h.w32, LT.splL_free h.k32, splL_app (t32 h), LT.splL_free (t32 h), preHd, LT.consHd, LT.splL_zero]
    rw [e]
    exact par_name3 (wd_mem (c := c) (by simp) hb)
  · refine .inr ?_
    have e : LT.splL 32 4 (N ++ [32] ++ [32, 97] ++ (W.take 10) ++ [32] ++ K) = [N, [], 97 :: W.take 10, K] := by simp [NoF, LT.splL_cons, LT.splL_nil, splL_app h.n32, splL_app h.w32, splL_app h.k32, LT.splL_free h.n32, LT.splL_free h.w32, LT.splL_free h.k32, splL_app (t32 h), LT.splL_free (t32 h), preHd, LT.consHd, LT.splL_zero]
    rw [e]
    rfl
theorem s27 : NoF ((N ++ [32, 32]) ++ K) := by
  refine .inr ?_
  have e : LT.splL 32 4 ((N ++ [32, 32]) ++ K) = [N, [], K] := by simp [NoF, LT.splL_cons, LT.splL_nil, splL_app h.n32, splL_app h.w32, splL_app h.k32, LT.splL_free h.n32, LT.splL_free h.w32, LT.splL_free h.k32, splL_app (t32 h), LT.splL_free (t32 h), preHd, LT.consHd, LT.splL_zero]
  rw [e]
  exact par_name3 (wd_len (.inl rfl))
theorem s28 : NoF ((N ++ [32]) ++ K) := by
  refine .inr ?_
  have e : LT.splL 32 4 ((N ++ [32]) ++ K) = [N, K] := by simp [NoF, LT.splL_cons, LT.splL_nil, splL_app h.n32, splL_app h.w32, splL_app h.k32, LT.splL_free h.n32, LT.splL_free h.w32, LT.splL_free h.k32, splL_app (t32 h), LT.splL_free (t32 h), preHd, LT.consHd, LT.splL_zero]
  rw [e]
  exact rfl
theorem s29 (ht : 32 ∉ T) (hk : kindOf T = none) : NoF (N ++ [32] ++ W ++ [32] ++ T) := by
  refine .inr ?_
  have e : LT.splL 32 4 (N ++ [32] ++ W ++ [32] ++ T) = [N, W, T] := by simp [LT.splL_free ht, NoF, LT.splL_cons, LT.splL_nil, splL_app h.n32, splL_app h.w32, splL_app h.k32, LT.splL_free h.n32, LT.splL_free h.w32, LT.splL_free h.k32, splL_app (t32 h), LT.splL_free (t32 h), preHd, LT.consHd, LT.splL_zero]
  rw [e]
  exact par_kind3 hk
theorem s30 : NoF ((((W ++ [32]) ++ N) ++ [32]) ++ K) := by
  refine .inr ?_
  have e : LT.splL 32 4 ((((W ++ [32]) ++ N) ++ [32]) ++ K) = [W, N, K] := by simp [NoF, LT.splL_cons, LT.splL_nil, splL_app h.n32, splL_app h.w32, splL_app h.k32, LT.splL_free h.n32, LT.splL_free h.w32, LT.splL_free h.k32, splL_app (t32 h), LT.splL_free (t32 h), preHd, LT.consHd, LT.splL_zero]
  rw [e]
  exact par_num3 (w_dig h)
theorem s31 : NoF ((((N ++ [32]) ++ W) ++ [44]) ++ K) := by
  refine .inr ?_
  have e : LT.splL 32 4 ((((N ++ [32]) ++ W) ++ [44]) ++ K) = [N, W ++ 44 :: K] := by simp [NoF, LT.splL_cons, LT.splL_nil, splL_app h.n32, splL_app h.w32, splL_app h.k32, LT.splL_free h.n32, LT.splL_free h.w32, LT.splL_free h.k32, splL_app (t32 h), LT.splL_free (t32 h), preHd, LT.consHd, LT.splL_zero]
  rw [e]
  exact rfl
theorem p1 (ht : 60 < T.length) : NoF (N ++ [32] ++ W ++ [32] ++ [116, 101, 120, 116, 32, 61, 32] ++ T) := by
  refine .inr ?_
  have e : LT.splL 32 4 (N ++ [32] ++ W ++ [32] ++ [116, 101, 120, 116, 32, 61, 32] ++ T) = [N, W, [116, 101, 120, 116], [61], T] := by simp [NoF, LT.splL_cons, LT.splL_nil, splL_app h.n32, splL_app h.w32, splL_app h.k32, LT.splL_free h.n32, LT.splL_free h.w32, LT.splL_free h.k32, splL_app (t32 h), LT.splL_free (t32 h), preHd, LT.consHd, LT.splL_zero]
  rw [e]
  refine par_pre5 (k := "text") (by decide +kernel) ?_
  unfold badB rpre
  rw [if_pos rfl]
  simp [presB, isNonD, dueB]
  omega
theorem q0 : NoF ((N ++ [32] ++ W ++ [32]) ++ [116, 101, 120, 116, 32, 61]) := by
  refine .inr ?_
  have e : LT.splL 32 4 ((N ++ [32] ++ W ++ [32]) ++ [116, 101, 120, 116, 32, 61]) = [N, W, [116, 101, 120, 116], [61]] := by simp [NoF, LT.splL_cons, LT.splL_nil, splL_app h.n32, splL_app h.w32, splL_app h.k32, LT.splL_free h.n32, LT.splL_free h.w32, LT.splL_free h.k32, splL_app (t32 h), LT.splL_free (t32 h), preHd, LT.consHd, LT.splL_zero]
  rw [e]
  exact rfl
theorem q1 : NoF ((N ++ [32] ++ W ++ [32]) ++ [116, 101, 120, 116, 61, 32, 97]) := by
  refine .inr ?_
  have e : LT.splL 32 4 ((N ++ [32] ++ W ++ [32]) ++ [116, 101, 120, 116, 61, 32, 97]) = [N, W, [116, 101, 120, 116, 61], [97]] := by simp [NoF, LT.splL_cons, LT.splL_nil, splL_app h.n32, splL_app h.w32, splL_app h.k32, LT.splL_free h.n32, LT.splL_free h.w32, LT.splL_free h.k32, splL_app (t32 h), LT.splL_free (t32 h), preHd, LT.consHd, LT.splL_zero]
  rw [e]
  exact rfl
theorem q2 : NoF ((N ++ [32] ++ W ++ [32]) ++ [116, 101, 120, 116, 32, 32, 61, 32, 97]) := by
  refine .inr ?_
  have e : LT.splL 32 4 ((N ++ [32] ++ W ++ [32]) ++ [116, 101, 120, 116, 32, 32, 61, 32, 97]) = [N, W, [116, 101, 120, 116], [], [61, 32, 97]] := by simp [NoF, LT.splL_cons, LT.splL_nil, splL_app h.n32, splL_app h.w32, splL_app h.k32, LT.splL_free h.n32, LT.splL_free h.w32, LT.splL_free h.k32, splL_app (t32 h), LT.splL_free (t32 h), preHd, LT.consHd, LT.splL_zero]
  rw [e]
  exact par_eq5 (by simp)
theorem q3 : NoF ((N ++ [32] ++ W ++ [32]) ++ [116, 101, 120, 116, 32, 97]) := by
  refine .inr ?_
  have e : LT.splL 32 4 ((N ++ [32] ++ W ++ [32]) ++ [116, 101, 120, 116, 32, 97]) = [N, W, [116, 101, 120, 116], [97]] := by simp [NoF, LT.splL_cons, LT.splL_nil, splL_app h.n32, splL_app h.w32, splL_app h.k32, LT.splL_free h.n32, LT.splL_free h.w32, LT.splL_free h.k32, splL_app (t32 h), LT.splL_free (t32 h), preHd, LT.consHd, LT.splL_zero]
  rw [e]
  exact rfl
theorem q4 : NoF ((N ++ [32] ++ W ++ [32]) ++ [116, 101, 120, 116, 32, 61, 61, 32, 97]) := by
  refine .inr ?_
  have e : LT.splL 32 4 ((N ++ [32] ++ W ++ [32]) ++ [116, 101, 120, 116, 32, 61, 61, 32, 97]) = [N, W, [116, 101, 120, 116], [61, 61], [97]] := by simp [NoF, LT.splL_cons, LT.splL_nil, splL_app h.n32, splL_app h.w32, splL_app h.k32, LT.splL_free h.n32, LT.splL_free h.w32, LT.splL_free h.k32, splL_app (t32 h), LT.splL_free (t32 h), preHd, LT.consHd, LT.splL_zero]
  rw [e]
  exact par_eq5 (by simp)
theorem q5 : NoF ((N ++ [32] ++ W ++ [32]) ++ [116, 101, 120, 116, 32]) := by
  refine .inr ?_
  have e : LT.splL 32 4 ((N ++ [32] ++ W ++ [32]) ++ [116, 101, 120, 116, 32]) = [N, W, [116, 101, 120, 116], []] := by simp [NoF, LT.splL_cons, LT.splL_nil, splL_app h.n32, splL_app h.w32, splL_app h.k32, LT.splL_free h.n32, LT.splL_free h.w32, LT.splL_free h.k32, splL_app (t32 h), LT.splL_free (t32 h), preHd, LT.consHd, LT.splL_zero]
  rw [e]
  exact rfl
theorem nl0 : NoF (N ++ [32] ++ W ++ [32] ++ [116, 101, 120, 116, 32, 61, 32, 97, 10, 98]) := .inl (by simp)
theorem nl1 : NoF (N ++ [32] ++ W ++ [32] ++ [116, 101, 120, 116, 10]) := .inl (by simp)
theorem w1 (hb : badB k T) : NoF (N ++ [32] ++ W ++ [32] ++ K ++ [32, 61, 32] ++ T) := by
  refine .inr ?_
  have e : LT.splL 32 4 (N ++ [32] ++ W ++ [32] ++ K ++ [32, 61, 32] ++ T) = [N, W, K, [61], T] := by simp [NoF, LT.splL_cons, LT.splL_nil, splL_app h.n32, splL_app h.w32, splL_app h.k32, LT.splL_free h.n32, LT.splL_free h.w32, LT.splL_free h.k32, splL_app (t32 h), LT.splL_free (t32 h), preHd, LT.consHd, LT.splL_zero]
  rw [e]
  exact par_pre5 h.kk hb
theorem v0 : NoF ((N ++ [32] ++ W ++ [32] ++ K) ++ [32, 61, 49]) := by
  refine .inr ?_
  have e : LT.splL 32 4 ((N ++ [32] ++ W ++ [32] ++ K) ++ [32, 61, 49]) = [N, W, K, [61, 49]] := by simp [NoF, LT.splL_cons, LT.splL_nil, splL_app h.n32, splL_app h.w32, splL_app h.k32, LT.splL_free h.n32, LT.splL_free h.w32, LT.splL_free h.k32, splL_app (t32 h), LT.splL_free (t32 h), preHd, LT.consHd, LT.splL_zero]
  rw [e]
  exact rfl
theorem v1 : NoF ((N ++ [32] ++ W ++ [32] ++ K) ++ [61, 32, 49]) := by
  refine .inr ?_
  have e : LT.splL 32 4 ((N ++ [32] ++ W ++ [32] ++ K) ++ [61, 32, 49]) = [N, W, K ++ [61], [49]] := by simp [NoF, LT.splL_cons, LT.splL_nil, splL_app h.n32, splL_app h.w32, splL_app h.k32, LT.splL_free h.n32, LT.splL_free h.w32, LT.splL_free h.k32, splL_app (t32 h), LT.splL_free (t32 h), preHd, LT.consHd, LT.splL_zero]
  rw [e]
  exact rfl
theorem v2 : NoF ((N ++ [32] ++ W ++ [32] ++ K) ++ [32, 49]) := by
  refine .inr ?_
  have e : LT.splL 32 4 ((N ++ [32] ++ W ++ [32] ++ K) ++ [32, 49]) = [N, W, K, [49]] := by simp [NoF, LT.splL_cons, LT.splL_nil, splL_app h.n32, splL_app h.w32, splL_app h.k32, LT.splL_free h.n32, LT.splL_free h.w32, LT.splL_free h.k32, splL_app (t32 h), LT.splL_free (t32 h), preHd, LT.consHd, LT.splL_zero]
  rw [e]
  exact rfl
theorem v3 : NoF (N ++ [32] ++ W ++ [32] ++ K ++ [32, 61, 32, 49, 10]) := .inl (by simp)
end

end My

set_option Elab.async false
set_option linter.all false
set_option maxRecDepth 100000
set_option maxHeartbeats 600000
namespace My
open PySem PyProof.Rows I3
--hb 600000
/-! the walks; printed by mkmain.py, the rest by hand -/
section
variable {G : Gam} {ρ : Env'} {κ : Store} {QF : I3.Flow → Store → Prop} {B k n : Nat} {P : List Nat → Prop} {l : List Nat} {x : D}
theorem Tx.go {e : E} {Q : D → Store → Prop} (h : Tx G e ρ κ l n) : wp (ev G e ρ κ) Q = Q (.str (LT.mkS l)) κ := by rw [h.1, wp_ok]
theorem Tx.use {e : E} {Q : D → Store → Prop} (h : Tx G e ρ κ l n) (hq : Q (.str (LT.mkS l)) κ) : wp (ev G e ρ κ) Q := by
  rw [h.1, wp_ok]
  exact hq
theorem rows_use {es : List E} {Q : List D → Store → Prop} (h : Rows B P G ρ κ es) (hq : ∀ ls : List (List Nat), (∀ l ∈ ls, l.length ≤ B ∧ P l) → ls.length = es.length → Q (ls.map tS) κ) : wp (evL G es ρ κ) Q := by
  obtain ⟨ls, e1, e2, e3⟩ := rows_L h
  rw [e1, wp_ok]
  exact hq ls e2 e3
theorem t_neS {i : Nat} {a b : String} {QT : Bool → Store → Prop} (h : ρ[i]? = some (some (.str (Str.ofString a)))) : wp (evT G (.cmp .ne (.var i) (.str (Str.ofString b))) ρ κ) QT = QT (!decide (a = b)) κ := by
  simp [h, eqS, ofString_inj]
theorem t_eqS {i : Nat} {a b : String} {QT : Bool → Store → Prop} (h : ρ[i]? = some (some (.str (Str.ofString a)))) : wp (evT G (.cmp .eq (.var i) (.str (Str.ofString b))) ρ κ) QT = QT (decide (a = b)) κ := by
  simp [h, eqS, ofString_inj]
theorem ss_asgX {i : Nat} {e : E} {ss : List S} (h : Tx G e ρ κ l n) (hq : wp (evSs G ss (ρ.set i (some (.str (LT.mkS l)))) κ) QF) : wp (evSs G (.asg (.nm i) e :: ss) ρ κ) QF := by
  refine ss_asg' ?_
  rw [h.1, wp_ok]
  exact hq
theorem ss_rows {i : Nat} {es : List E} {ss : List S} (hr : Rows B P G ρ κ es) (hl : Nat.ble es.length 1000000 = true) (hq : ∀ y, Fnd B P es.length y → wp (evSs G ss (ρ.set i (some y)) κ) QF) : wp (evSs G (.asg (.nm i) (.lst es) :: ss) ρ κ) QF :=
  ss_asg' (rows_lst hr hl hq)
theorem more {i : Nat} {es : List E} {Q : D → Store → Prop} (h3 : ρ[i]? = some (some x)) (hx : Fnd B P k x) (hr : Rows B P G ρ κ es) (hl : Nat.ble (k + es.length) 1000000 = true) (hq : ∀ y, Fnd B P (k + es.length) y → Q y κ) : wp (ev G (.bin .add (.var i) (.lst es)) ρ κ) Q := by
  have hl' := Nat.le_of_ble_eq_true hl
  rw [w_bin, w_var, h3]
  dsimp only
  rw [wp_ok]
  refine rows_lst hr (Nat.ble_eq_true_of_le (by omega)) fun y hy => ?_
  exact Fnd.app hx hy hl hq
theorem ss_more {i : Nat} {es : List E} {ss : List S} (h3 : ρ[i]? = some (some x)) (hx : Fnd B P k x) (hr : Rows B P G ρ κ es) (hl : Nat.ble (k + es.length) 1000000 = true) (hq : ∀ y, Fnd B P (k + es.length) y → wp (evSs G ss (ρ.set i (some y)) κ) QF) : wp (evSs G (.asg (.nm i) (.bin .add (.var i) (.lst es)) :: ss) ρ κ) QF :=
  ss_asg' (more h3 hx hr hl hq)
end
theorem L_0 : LT.tl (" " : Str) = [32] := by decide +kernel
theorem L_1 : LT.tl ("abcdefghijklm" : Str) = [97, 98, 99, 100, 101, 102, 103, 104, 105, 106, 107, 108, 109] := by decide +kernel
theorem L_2 : LT.tl ("" : Str) = [] := by decide +kernel
theorem L_3 : LT.tl ("1000000" : Str) = [49, 48, 48, 48, 48, 48, 48] := by decide +kernel
theorem L_4 : LT.tl ("0" : Str) = [48] := by decide +kernel
theorem L_5 : LT.tl ("-" : Str) = [45] := by decide +kernel
theorem L_6 : LT.tl ("+" : Str) = [43] := by decide +kernel
theorem L_7 : LT.tl ("_" : Str) = [95] := by decide +kernel
theorem L_8 : LT.tl ("_0" : Str) = [95, 48] := by decide +kernel
theorem L_9 : LT.tl (".0" : Str) = [46, 48] := by decide +kernel
theorem L_10 : LT.tl ("x" : Str) = [120] := by decide +kernel
theorem L_11 : LT.tl ("  " : Str) = [32, 32] := by decide +kernel
theorem L_12 : LT.tl ("," : Str) = [44] := by decide +kernel
theorem L_13 : LT.tl ("text\n" : Str) = [116, 101, 120, 116, 10] := by decide +kernel
theorem L_14 : LT.tl ("text = a\nb" : Str) = [116, 101, 120, 116, 32, 61, 32, 97, 10, 98] := by decide +kernel
theorem L_15 : LT.tl ("text " : Str) = [116, 101, 120, 116, 32] := by decide +kernel
theorem L_16 : LT.tl ("text == a" : Str) = [116, 101, 120, 116, 32, 61, 61, 32, 97] := by decide +kernel
theorem L_17 : LT.tl ("text a" : Str) = [116, 101, 120, 116, 32, 97] := by decide +kernel
theorem L_18 : LT.tl ("text  = a" : Str) = [116, 101, 120, 116, 32, 32, 61, 32, 97] := by decide +kernel
theorem L_19 : LT.tl ("text= a" : Str) = [116, 101, 120, 116, 61, 32, 97] := by decide +kernel
theorem L_20 : LT.tl ("text =" : Str) = [116, 101, 120, 116, 32, 61] := by decide +kernel
theorem L_21 : LT.tl ("0x1" : Str) = [48, 120, 49] := by decide +kernel
theorem L_22 : LT.tl ("None" : Str) = [78, 111, 110, 101] := by decide +kernel
theorem L_23 : LT.tl ("True" : Str) = [84, 114, 117, 101] := by decide +kernel
theorem L_24 : LT.tl ("1-" : Str) = [49, 45] := by decide +kernel
theorem L_25 : LT.tl ("--1" : Str) = [45, 45, 49] := by decide +kernel
theorem L_26 : LT.tl ("one" : Str) = [111, 110, 101] := by decide +kernel
theorem L_27 : LT.tl ("1.0" : Str) = [49, 46, 48] := by decide +kernel
theorem L_28 : LT.tl (" 1" : Str) = [32, 49] := by decide +kernel
theorem L_29 : LT.tl ("1 " : Str) = [49, 32] := by decide +kernel
theorem L_30 : LT.tl ("-0" : Str) = [45, 48] := by decide +kernel
theorem L_31 : LT.tl ("+1" : Str) = [43, 49] := by decide +kernel
theorem L_32 : LT.tl ("01" : Str) = [48, 49] := by decide +kernel
theorem L_33 : LT.tl ("00" : Str) = [48, 48] := by decide +kernel
theorem L_34 : LT.tl ("-01" : Str) = [45, 48, 49] := by decide +kernel
theorem L_35 : LT.tl ("-00" : Str) = [45, 48, 48] := by decide +kernel
theorem L_36 : LT.tl ("_1" : Str) = [95, 49] := by decide +kernel
theorem L_37 : LT.tl ("1_" : Str) = [49, 95] := by decide +kernel
theorem L_38 : LT.tl ("1_0" : Str) = [49, 95, 48] := by decide +kernel
theorem L_39 : LT.tl ("needed" : Str) = [110, 101, 101, 100, 101, 100] := by decide +kernel
theorem L_40 : LT.tl ("1000000000000000001" : Str) = [49, 48, 48, 48, 48, 48, 48, 48, 48, 48, 48, 48, 48, 48, 48, 48, 48, 48, 49] := by decide +kernel
theorem L_41 : LT.tl ("-1" : Str) = [45, 49] := by decide +kernel
theorem L_42 : LT.tl ("-1000000000000000001" : Str) = [45, 49, 48, 48, 48, 48, 48, 48, 48, 48, 48, 48, 48, 48, 48, 48, 48, 48, 48, 49] := by decide +kernel
theorem L_43 : LT.tl ("1000000000000000000" : Str) = [49, 48, 48, 48, 48, 48, 48, 48, 48, 48, 48, 48, 48, 48, 48, 48, 48, 48, 48] := by decide +kernel
theorem L_44 : LT.tl ("256" : Str) = [50, 53, 54] := by decide +kernel
theorem L_45 : LT.tl (" = " : Str) = [32, 61, 32] := by decide +kernel
theorem L_46 : LT.tl (" = 1\n" : Str) = [32, 61, 32, 49, 10] := by decide +kernel
theorem L_47 : LT.tl ("= 1" : Str) = [61, 32, 49] := by decide +kernel
theorem L_48 : LT.tl (" =1" : Str) = [32, 61, 49] := by decide +kernel
theorem L_49 : LT.tl ("Small" : Str) = [83, 109, 97, 108, 108] := by decide +kernel
theorem L_50 : LT.tl ("int" : Str) = [105, 110, 116] := by decide +kernel
theorem L_51 : LT.tl ("smal" : Str) = [115, 109, 97, 108] := by decide +kernel
theorem L_52 : LT.tl ("texts" : Str) = [116, 101, 120, 116, 115] := by decide +kernel
theorem L_53 : LT.tl ("signed," : Str) = [115, 105, 103, 110, 101, 100, 44] := by decide +kernel
theorem L_54 : LT.tl ("WHOLE" : Str) = [87, 72, 79, 76, 69] := by decide +kernel
theorem L_55 : LT.tl ("=" : Str) = [61] := by decide +kernel
theorem L_56 : LT.tl ("text = " : Str) = [116, 101, 120, 116, 32, 61, 32] := by decide +kernel
section
variable {n j m : Nat} {κ : Store} {Q : D → Store → Prop} {p : P4} {v : Nat} {ρ : Env'}
abbrev sNum (p : P4) : Str := Str.ofString (toString p.num)
theorem num_tx {G : Gam} {e : E} {w : Nat} (he : wp (ev G e ρ κ) fun d κ' => d = .int (w : Int) ∧ κ' = κ) (hw : (w : Int) < big) : Tx G (.f1 .str e) ρ κ (LT.dgs w) 62 := by
  have hb : -big < (w : Int) ∧ (w : Int) < big := ⟨by unfold big; omega, hw⟩
  refine tx_wp (z := Str.ofString (toString (w : Int))) ?_ (LT.tl_nat w) (int_len hb)
  rw [w_f1]
  refine wp_mono he fun d κ1 ⟨e1, e2⟩ => ?_
  subst e1 e2
  rw [o_strI hb]
  exact ⟨rfl, rfl⟩
theorem big_tx {G : Gam} {i : Nat} (hv : p.num = (v : Int)) (hv2 : v ≤ 999999) (h1 : ρ[1]? = some (some (.tup p.ds))) (hi : Nat.ble i 30 = true) : Tx G (.f1 .str (.bin .add (.bin .pow (.int 10) (.int (i : Int))) (.sub (.var 1) (.int 0)))) ρ κ (LT.dgs (10 ^ i + v)) 62 := by
  have hi' := Nat.le_of_ble_eq_true hi
  have hp : (10 : Nat) ^ i ≤ 10 ^ 30 := Nat.pow_le_pow_right (by omega) hi'
  refine num_tx ?_ (by unfold big; omega)
  have p1 : (0 : Int) ≤ (i : Int) ∧ (i : Int) ≤ 100 := by omega
  have p2 : -18446744073709551616 < (10 : Int) ∧ (10 : Int) < 18446744073709551616 := by omega
  simp only [w_bin, w_int, wp_ok, o_pow p1 p2, w_sub, w_var, h1, t0, o_add]
  refine ⟨?_, trivial⟩
  congr 1
  rw [hv, Int.toNat_natCast]
  simp
theorem r3_ok (hp : p.Ok) (hv : p.num = (v : Int)) {k : String} (hk : kindS k) : R3 (LT.tl (sNum p)) (LT.tl p.name) (LT.tl (Str.ofString k)) k := by
  have en : LT.tl (sNum p) = LT.dgs v := by
    show LT.tl (Str.ofString (toString p.num)) = _
    rw [hv, LT.tl_nat]
  have hl := hp.len
  refine ⟨by rw [en]; exact dgs_no (by omega), word_no hp.name (by omega), kind_no hk (by omega), ?_, ?_, fun c hc => ?_, kindOf_s hk⟩
  · rw [en]
    have := LT.dgs_pos v
    intro q
    rw [q] at this
    simp at this
  · intro q
    have : (LT.tl p.name).length = p.name.length := LT.tl_len
    rw [q] at this
    simp at this
    omega
  · by_cases h : 97 ≤ c ∧ c ≤ 122
    · exact h
    · exact absurd hc (word_no hp.name (by omega))
theorem odd_ok : ∀ s ∈ ["A", "1", "-", "_", " a", "Z"], OddS (LT.tl (Str.ofString s)) := by
  intro s hs
  simp only [List.mem_cons, List.not_mem_nil, or_false] at hs
  rcases hs with rfl | rfl | rfl | rfl | rfl | rfl
  · exact .inl ⟨65, by decide +kernel, by decide, by decide⟩
  · exact .inl ⟨49, by decide +kernel, by decide, by decide⟩
  · exact .inl ⟨45, by decide +kernel, by decide, by decide⟩
  · exact .inl ⟨95, by decide +kernel, by decide, by decide⟩
  · exact .inr (by decide +kernel)
  · exact .inl ⟨90, by decide +kernel, by decide, by decide⟩
theorem odd_len {o : List Nat} (h : OddS o) : o.length ≤ 2 := by
  rcases h with ⟨c, rfl, _, _⟩ | rfl <;> simp
theorem badw : ∀ T ∈ [[83, 109, 97, 108, 108], [105, 110, 116], [115, 109, 97, 108], [116, 101, 120, 116, 115], [115, 105, 103, 110, 101, 100, 44], [87, 72, 79, 76, 69], [61]], 32 ∉ T ∧ kindOf T = none ∧ T.length ≤ 20 := by decide +kernel
theorem spw_ok (hp : p.Ok) (hd : DeckAt κ j m) (hm : m < 100000) (hq : ∀ x κ', Fnd 1000 NoF 100 x → Drawn κ j (m + 1) κ' → Q x κ') : wp (I3.run tb.pgm (n + 3) "_law_spoilt_words" [.cell j, .tup p.ds] κ) Q := by
  obtain ⟨v, hv, hv2⟩ : ∃ v : Nat, p.num = (v : Int) ∧ v ≤ 999999 := ⟨p.num.toNat, by have := hp.num; omega, by have := hp.num; omega⟩
  have h := r3_ok hp hv hp.kind
  have hN : (sNum p).length ≤ 62 := num_len hp
  have hW : p.name.length ≤ 12 := hp.len.1
  have hK : (Str.ofString p.kind).length ≤ 6 := kind_len hp.kind
  have hR : ([32] ++ LT.tl p.name ++ [32] ++ LT.tl (Str.ofString p.kind)).length ≤ 30 := by
    have e1 : (LT.tl p.name).length = p.name.length := LT.tl_len
    have e2 : (LT.tl (Str.ofString p.kind)).length = (Str.ofString p.kind).length := LT.tl_len
    simp only [List.length_append, List.length_cons, List.length_nil, e1, e2]
    omega
  refine wp_def [some (.cell j), some (.tup p.ds), none, none, none, none, none, none, none, none] .keep _ p__law_spoilt_words rfl rfl rfl rfl ?_
  refine ss_asgT' ?_
  have l3 : ∀ (a b c : D) (Q : D → Store → Prop), wp (if ([a, b, c] : List D).length ≤ 16777216 then Res.ok (.tup [a, b, c]) κ else .bad) Q = Q (.tup [a, b, c]) κ := fun a b c Q => by
    rw [if_pos (by show 3 ≤ 16777216; omega), wp_ok]
  simp only [w_tup, w_cons, w_nil, w_f1, w_sub, w_var, w_int, wp_ok, List.getElem?_cons_zero, List.getElem?_cons_succ, t0, t1, t2, o_strI hp.nums, l3]
  refine wp_pure rfl ?_
  refine ss_asgX (l := [32] ++ LT.tl p.name ++ [32] ++ LT.tl (Str.ofString p.kind)) (tx_add (tx_add (tx_add (tx_str L_0) (tx_var (z := p.name) rfl hW) rfl) (tx_str L_0) rfl) (tx_var (z := Str.ofString p.kind) rfl hK) rfl) ?_
  have sl : ∀ (i : Nat) {G : Gam} {ρ : Env'} {κ : Store}, ρ[5]? = some (some (.str p.name)) → Tx G (.slice (.var 5) .non (.int (i : Int))) ρ κ ((LT.tl p.name).take i) 12 := fun i G ρ κ h5 => by
    have et : LT.tl (Txt.slice p.name none (some (i : Int))) = (LT.tl p.name).take i := sl_list p.name i
    have el : (Txt.slice p.name none (some (i : Int))).length ≤ 12 := by
      have e1 : (LT.tl (Txt.slice p.name none (some (i : Int)))).length = (Txt.slice p.name none (some (i : Int))).length := LT.tl_len
      rw [et, List.length_take] at e1
      have e2 : (LT.tl p.name).length = p.name.length := LT.tl_len
      omega
    refine tx_wp (z := Txt.slice p.name none (some (i : Int))) ?_ et el
    have hsl : ∀ Q : D → Store → Prop, wp (opSlice (.str p.name) none (some (i : Int)) κ) Q = Q (.str (Txt.slice p.name none (some (i : Int)))) κ := fun Q => by
      show wp (if p.name.length ≤ 16777216 then .ok (.str (Txt.slice p.name none (some (i : Int)))) κ else .bad) Q = _
      rw [if_pos (by omega), wp_ok]
    have p1 : partE (.int (i : Int)) = false := rfl
    have p2 : partE .non = true := rfl
    simp only [w_slice, w_var, h5, wp_ok, p1, p2, if_true, Bool.false_eq_true, if_false, wp_bind, w_int, opPart, hsl]
    (first | exact ⟨rfl, rfl⟩ | exact ⟨rfl, trivial⟩ | exact ⟨trivial, trivial⟩)
  refine ss_par' ?_
  refine Tx.use (l := (LT.tl p.name).take 6 ++ [97, 98, 99, 100, 101, 102, 103, 104, 105, 106, 107, 108, 109]) (tx_add (sl 6 rfl) (tx_str L_1) rfl) ?_
  simp only [w_call, w_cons, w_nil, w_var, w_lst, w_str, List.getElem?_cons_zero, List.getElem?_cons_succ, wp_ok, gam_call, List.set_cons_zero, List.set_cons_succ]
  refine wp_if (by show 6 ≤ 16777216; omega) ?_
  rw [wp_ok]
  have mk : ∀ s, s ∈ ["A", "1", "-", "_", " a", "Z"] → ∃ o, D.str (Str.ofString s) = .str (LT.mkS o) ∧ OddS o := fun s hs => ⟨LT.tl (Str.ofString s), by rw [LT.mkS_tl], odd_ok s hs⟩
  refine pick (P := fun x => ∃ o, x = .str (LT.mkS o) ∧ OddS o) (all_cons (mk _ (by simp)) (all_cons (mk _ (by simp)) (all_cons (mk _ (by simp)) (all_cons (mk _ (by simp)) (all_cons (mk _ (by simp)) (all_cons (mk _ (by simp)) all_nil)))))) hd (by omega) (by simp) fun x κ2 ⟨o, ex, ho⟩ d1 => ?_
  subst ex
  have hO := odd_len ho
  have hL : ((LT.tl p.name).take 6 ++ [97, 98, 99, 100, 101, 102, 103, 104, 105, 106, 107, 108, 109]).length ≤ 20 := by
    simp only [List.length_append, List.length_take, List.length_cons, List.length_nil]
    omega
  refine ss_rows (B := 1000) (P := NoF) (.cons (tx_str L_2) rfl (s1 h) (.cons (tx_str L_0) rfl (s2 h) (.cons (tx_var (z := sNum p) rfl hN) rfl (s3 h) (.cons (tx_add (tx_var (z := sNum p) rfl hN) (tx_str L_0) rfl) rfl (s4 h) (.cons (tx_add (tx_add (tx_var (z := sNum p) rfl hN) (tx_str L_0) rfl) (tx_var (z := p.name) rfl hW) rfl) rfl (s5 h) (.cons (tx_add (tx_add (tx_add (tx_var (z := sNum p) rfl hN) (tx_str L_0) rfl) (tx_var (z := p.name) rfl hW) rfl) (tx_str L_0) rfl) rfl (s6 h) (.cons (tx_varL rfl hR) rfl (s7 h) (.cons (tx_add (tx_add (tx_str L_0) (tx_var (z := sNum p) rfl hN) rfl) (tx_varL rfl hR) rfl) rfl (s8 h) .nil)))))))) rfl fun y1 f1 => ?_
  refine ss_more rfl f1 (.cons (tx_add (tx_add (tx_str L_4) (tx_var (z := sNum p) rfl hN) rfl) (tx_varL rfl hR) rfl) rfl (s9 h) (.cons (tx_add (tx_add (tx_str L_6) (tx_var (z := sNum p) rfl hN) rfl) (tx_varL rfl hR) rfl) rfl (sa0 h) (.cons (tx_add (tx_add (tx_str L_5) (tx_var (z := sNum p) rfl hN) rfl) (tx_varL rfl hR) rfl) rfl (sa1 h) (.cons (tx_add (tx_str L_4) (tx_varL rfl hR) rfl) rfl (s12 h) (.cons (tx_add (tx_str L_3) (tx_varL rfl hR) rfl) rfl (s13 h) .nil))))) rfl fun y2 f2 => ?_
  refine ss_more rfl f2 (.cons (tx_add (big_tx (i := 18) hv hv2 rfl rfl) (tx_varL rfl hR) rfl) rfl (s14 h (n := 10 ^ 18 + v) (by omega)) (.cons (tx_add (big_tx (i := 30) hv hv2 rfl rfl) (tx_varL rfl hR) rfl) rfl (s14 h (n := 10 ^ 30 + v) (by omega)) (.cons (tx_add (tx_add (tx_str L_10) (tx_var (z := sNum p) rfl hN) rfl) (tx_varL rfl hR) rfl) rfl (sa2 h) (.cons (tx_add (tx_add (tx_var (z := sNum p) rfl hN) (tx_str L_9) rfl) (tx_varL rfl hR) rfl) rfl (sb0 h) (.cons (tx_add (tx_add (tx_var (z := sNum p) rfl hN) (tx_str L_8) rfl) (tx_varL rfl hR) rfl) rfl (sb1 h) (.cons (tx_add (tx_add (tx_var (z := sNum p) rfl hN) (tx_str L_7) rfl) (tx_varL rfl hR) rfl) rfl (sb2 h) (.cons (tx_add (tx_add (tx_str L_7) (tx_var (z := sNum p) rfl hN) rfl) (tx_varL rfl hR) rfl) rfl (sa3 h) .nil))))))) rfl fun y3 f3 => ?_
  refine ss_more rfl f3 (.cons (tx_add (tx_add (tx_add (tx_add (tx_var (z := sNum p) rfl hN) (tx_str L_11) rfl) (tx_var (z := p.name) rfl hW) rfl) (tx_str L_0) rfl) (tx_var (z := Str.ofString p.kind) rfl hK) rfl) rfl (s21 h) (.cons (tx_add (tx_add (tx_add (tx_add (tx_var (z := sNum p) rfl hN) (tx_str L_0) rfl) (tx_var (z := p.name) rfl hW) rfl) (tx_str L_11) rfl) (tx_var (z := Str.ofString p.kind) rfl hK) rfl) rfl (s22 h) (.cons (tx_add (tx_add (tx_add (tx_var (z := sNum p) rfl hN) (tx_str L_0) rfl) (tx_var (z := p.name) rfl hW) rfl) (tx_var (z := Str.ofString p.kind) rfl hK) rfl) rfl (s23 h) .nil))) rfl fun y4 f4 => ?_
  refine ss_more rfl f4 (.cons (tx_add (tx_add (tx_add (tx_add (tx_var (z := sNum p) rfl hN) (tx_str L_0) rfl) (tx_varL rfl hL) rfl) (tx_str L_0) rfl) (tx_var (z := Str.ofString p.kind) rfl hK) rfl) rfl (s24 h) (.cons (tx_add (tx_add (tx_add (tx_add (tx_add (tx_var (z := sNum p) rfl hN) (tx_str L_0) rfl) (sl 11 rfl) rfl) (tx_varL rfl hO) rfl) (tx_str L_0) rfl) (tx_var (z := Str.ofString p.kind) rfl hK) rfl) rfl (s25 h ho) .nil)) rfl fun y5 f5 => ?_
  refine ss_more rfl f5 (.cons (tx_add (tx_add (tx_add (tx_add (tx_add (tx_var (z := sNum p) rfl hN) (tx_str L_0) rfl) (tx_varL rfl hO) rfl) (sl 10 rfl) rfl) (tx_str L_0) rfl) (tx_var (z := Str.ofString p.kind) rfl hK) rfl) rfl (s26 h ho) (.cons (tx_add (tx_add (tx_var (z := sNum p) rfl hN) (tx_str L_11) rfl) (tx_var (z := Str.ofString p.kind) rfl hK) rfl) rfl (s27 h) (.cons (tx_add (tx_add (tx_var (z := sNum p) rfl hN) (tx_str L_0) rfl) (tx_var (z := Str.ofString p.kind) rfl hK) rfl) rfl (s28 h) .nil))) rfl fun y6 f6 => ?_
  refine ss_asg' ?_
  rw [w_bin, w_var]
  refine wp_pure rfl ?_
  rw [w_comp, w_val, w_lst]
  simp only [w_cons, w_nil, w_str, wp_ok]
  refine wp_if (by show 7 ≤ 16777216; omega) ?_
  rw [wp_ok]
  refine wp_pure rfl ?_
  refine wp_if (by show 7 ≤ 16777216; omega) ?_
  refine comp_fnd (B := 1000) (P := NoF) (fun d hd => ?_) fun ls h1 h2 => ?_
  · have hT' : ∃ T : List Nat, d = .str (LT.mkS T) ∧ 32 ∉ T ∧ kindOf T = none ∧ T.length ≤ 20 := by
      have g : ∀ (z : Str) (T : List Nat), LT.tl z = T → T ∈ [[83, 109, 97, 108, 108], [105, 110, 116], [115, 109, 97, 108], [116, 101, 120, 116, 115], [115, 105, 103, 110, 101, 100, 44], [87, 72, 79, 76, 69], [61]] → ∃ T : List Nat, D.str z = .str (LT.mkS T) ∧ 32 ∉ T ∧ kindOf T = none ∧ T.length ≤ 20 := fun z T e hT => ⟨T, by rw [← e, LT.mkS_tl], badw T hT⟩
      simp only [List.mem_cons, List.not_mem_nil, or_false] at hd
      rcases hd with rfl | rfl | rfl | rfl | rfl | rfl | rfl
      · exact g _ _ L_49 (by simp)
      · exact g _ _ L_50 (by simp)
      · exact g _ _ L_51 (by simp)
      · exact g _ _ L_52 (by simp)
      · exact g _ _ L_53 (by simp)
      · exact g _ _ L_54 (by simp)
      · exact g _ _ L_55 (by simp)
    obtain ⟨T, rfl, t1, t2, hT⟩ := hT'
    exact ⟨_, _, (tx_add (tx_add (tx_add (tx_add (tx_var (z := sNum p) rfl hN) (tx_str L_0) rfl) (tx_var (z := p.name) rfl hW) rfl) (tx_str L_0) rfl) (tx_varL rfl hT) rfl), Nat.le_of_ble_eq_true rfl, s29 h t1 t2⟩
  refine Fnd.app (B := 1000) (P := NoF) f6 ⟨ls, rfl, h1, Nat.le_of_eq h2⟩ rfl fun y7 f7 => ?_
  refine ss_ret' ?_
  refine more rfl f7 (.cons (tx_add (tx_add (tx_add (tx_add (tx_var (z := p.name) rfl hW) (tx_str L_0) rfl) (tx_var (z := sNum p) rfl hN) rfl) (tx_str L_0) rfl) (tx_var (z := Str.ofString p.kind) rfl hK) rfl) rfl (s30 h) (.cons (tx_add (tx_add (tx_add (tx_add (tx_var (z := sNum p) rfl hN) (tx_str L_0) rfl) (tx_var (z := p.name) rfl hW) rfl) (tx_str L_12) rfl) (tx_var (z := Str.ofString p.kind) rfl hK) rfl) rfl (s31 h) .nil)) rfl fun y8 f8 => ?_
  rw [e_keep]
  obtain ⟨ls8, a8, b8, c8⟩ := f8
  exact hq _ _ ⟨ls8, a8, b8, Nat.le_trans c8 (Nat.le_of_ble_eq_true rfl)⟩ d1
end

section
variable {n j m : Nat} {κ : Store} {Q : D → Store → Prop} {p : P4} {v : Nat} {ρ : Env'} {k : String}
def kind3 (k : String) : Prop := k = "small" ∨ k = "whole" ∨ k = "signed"
def badQ (k : String) (w : List Nat) : Bool := match rpre k (LT.mkS w) with
  | none => true
  | some d => !presB k d
theorem badB_of {w : List Nat} (h : badQ k w = true) : badB k w := by
  unfold badB
  unfold badQ at h
  cases e : rpre k (LT.mkS w) with
  | none => trivial
  | some d =>
    rw [e] at h
    simpa using h
theorem kind3.ne (h : kind3 k) : k ≠ "text" := by
  rcases h with rfl | rfl | rfl <;> decide
theorem kind3.ks (h : kind3 k) : kindS k := by
  rcases h with rfl | rfl | rfl
  · exact .inl rfl
  · exact .inr (.inl rfl)
  · exact .inr (.inr (.inl rfl))
theorem bw_0 (h : kind3 k) : badB k [] := by
  rcases h with rfl | rfl | rfl <;> exact badB_of (by decide +kernel)
theorem bw_1 (h : kind3 k) : badB k [32] := by
  rcases h with rfl | rfl | rfl <;> exact badB_of (by decide +kernel)
theorem bw_2 (h : kind3 k) : badB k [48, 48] := by
  rcases h with rfl | rfl | rfl <;> exact badB_of (by decide +kernel)
theorem bw_3 (h : kind3 k) : badB k [48, 49] := by
  rcases h with rfl | rfl | rfl <;> exact badB_of (by decide +kernel)
theorem bw_4 (h : kind3 k) : badB k [43, 49] := by
  rcases h with rfl | rfl | rfl <;> exact badB_of (by decide +kernel)
theorem bw_5 (h : kind3 k) : badB k [45, 48] := by
  rcases h with rfl | rfl | rfl <;> exact badB_of (by decide +kernel)
theorem bw_6 (h : kind3 k) : badB k [49, 32] := by
  rcases h with rfl | rfl | rfl <;> exact badB_of (by decide +kernel)
theorem bw_7 (h : kind3 k) : badB k [32, 49] := by
  rcases h with rfl | rfl | rfl <;> exact badB_of (by decide +kernel)
theorem bw_8 (h : kind3 k) : badB k [49, 46, 48] := by
  rcases h with rfl | rfl | rfl <;> exact badB_of (by decide +kernel)
theorem bw_9 (h : kind3 k) : badB k [111, 110, 101] := by
  rcases h with rfl | rfl | rfl <;> exact badB_of (by decide +kernel)
theorem bw_10 (h : kind3 k) : badB k [45] := by
  rcases h with rfl | rfl | rfl <;> exact badB_of (by decide +kernel)
theorem bw_11 (h : kind3 k) : badB k [45, 45, 49] := by
  rcases h with rfl | rfl | rfl <;> exact badB_of (by decide +kernel)
theorem bw_12 (h : kind3 k) : badB k [49, 45] := by
  rcases h with rfl | rfl | rfl <;> exact badB_of (by decide +kernel)
theorem bw_13 (h : kind3 k) : badB k [84, 114, 117, 101] := by
  rcases h with rfl | rfl | rfl <;> exact badB_of (by decide +kernel)
theorem bw_14 (h : kind3 k) : badB k [78, 111, 110, 101] := by
  rcases h with rfl | rfl | rfl <;> exact badB_of (by decide +kernel)
theorem bw_15 (h : kind3 k) : badB k [48, 120, 49] := by
  rcases h with rfl | rfl | rfl <;> exact badB_of (by decide +kernel)
theorem bw_16 (h : kind3 k) : badB k [49, 48, 48, 48, 48, 48, 48, 48, 48, 48, 48, 48, 48, 48, 48, 48, 48, 48, 49] := by
  rcases h with rfl | rfl | rfl <;> exact badB_of (by decide +kernel)
theorem bw_17 (h : kind3 k) : badB k [110, 101, 101, 100, 101, 100] := by
  rcases h with rfl | rfl | rfl <;> exact badB_of (by decide +kernel)
theorem bw_18 (h : kind3 k) : badB k [49, 95, 48] := by
  rcases h with rfl | rfl | rfl <;> exact badB_of (by decide +kernel)
theorem bw_19 (h : kind3 k) : badB k [49, 95] := by
  rcases h with rfl | rfl | rfl <;> exact badB_of (by decide +kernel)
theorem bw_20 (h : kind3 k) : badB k [95, 49] := by
  rcases h with rfl | rfl | rfl <;> exact badB_of (by decide +kernel)
theorem bw_21 (h : kind3 k) : badB k [45, 48, 48] := by
  rcases h with rfl | rfl | rfl <;> exact badB_of (by decide +kernel)
theorem bw_22 (h : kind3 k) : badB k [45, 48, 49] := by
  rcases h with rfl | rfl | rfl <;> exact badB_of (by decide +kernel)
theorem bw_m1 (h : k = "small" ∨ k = "whole") : badB k [45, 49] := by
  rcases h with rfl | rfl <;> exact badB_of (by decide +kernel)
theorem bw_s1 : badB "signed" [45, 49, 48, 48, 48, 48, 48, 48, 48, 48, 48, 48, 48, 48, 48, 48, 48, 48, 48, 49] := badB_of (by decide +kernel)
theorem bw_c1 : badB "small" [50, 53, 54] := badB_of (by decide +kernel)
theorem bw_c2 : badB "small" [49, 48, 48, 48, 48, 48, 48, 48, 48, 48, 48, 48, 48, 48, 48, 48, 48, 48, 48] := badB_of (by decide +kernel)
theorem b60 (h : kind3 k) : badB k (List.replicate 60 57) := by
  rcases h with rfl | rfl | rfl <;> exact badB_of (by decide +kernel)
theorem b20 : badB "signed" ([45] ++ List.replicate 20 57) := badB_of (by decide +kernel)
theorem rpre_dgs (h : kind3 k) {n : Nat} : rpre k (LT.mkS (LT.dgs n)) = (rdig 19 (LT.dgs n)).map fun (v : Nat) => D.int (v : Int) := by
  unfold rpre
  rw [if_neg h.ne, LT.tl_mkS]
  split
  · rename_i r hr
    exact absurd (show 45 ∈ LT.dgs n by rw [hr]; exact List.mem_cons_self ..) (dgs_no (by omega))
  · rfl
theorem rdig_val {n v : Nat} {a : Nat} (e : rdig a (LT.dgs n) = some v) : v = n := by
  unfold rdig at e
  split at e
  · rw [LT.dgs_val] at e
    cases e
    rfl
  · cases e
theorem bdg (h : kind3 k) {n : Nat} (hn : 10 ^ 19 ≤ n) : badB k (LT.dgs n) := by
  unfold badB
  rw [rpre_dgs h]
  cases e : rdig 19 (LT.dgs n) with
  | none => trivial
  | some v =>
    have := rdig_val e
    subst this
    show presB k (.int (v : Int)) = false
    rcases h with rfl | rfl | rfl <;> simp [presB, isNonD, dueB] <;> omega
theorem b256 {v : Nat} (hv : 1 ≤ v) : badB "small" (LT.dgs (256 + v)) := by
  unfold badB
  rw [rpre_dgs (.inl rfl)]
  cases e : rdig 19 (LT.dgs (256 + v)) with
  | none => trivial
  | some w =>
    have := rdig_val e
    subst this
    show presB "small" (.int ((256 + v : Nat) : Int)) = false
    simp [presB, isNonD, dueB]
    omega
theorem bneg (h : k = "small" ∨ k = "whole") {v : Nat} (hv : 1 ≤ v) : badB k ([45] ++ LT.dgs v) := by
  have hk : k ≠ "text" := by rcases h with rfl | rfl <;> decide
  have e0 : rpre k (LT.mkS ([45] ++ LT.dgs v)) = (match rdig 19 (LT.dgs v) with
    | some (v + 1) => some (.int (-((v + 1 : Nat) : Int)))
    | _ => none) := by
    unfold rpre
    rw [if_neg hk, LT.tl_mkS]
    rfl
  unfold badB
  rw [e0]
  cases e : rdig 19 (LT.dgs v) with
  | none => trivial
  | some w =>
    cases w with
    | zero => trivial
    | succ w =>
      show presB k (.int (-((w + 1 : Nat) : Int))) = false
      rcases h with rfl | rfl <;> simp [presB, isNonD, dueB] <;> omega
theorem nines {G : Gam} (i : Nat) (hi : Nat.ble i 60 = true) : Tx G (.bin .mul (.str ("9" : Str)) (.int (i : Int))) ρ κ (List.replicate i 57) 60 := by
  have hi' := Nat.le_of_ble_eq_true hi
  have key : ∀ i : Nat, i ≤ 60 → LT.tl (strRep ("9" : Str) (i : Int)) = List.replicate i 57 := by decide +kernel
  have e := key i hi'
  have l1 : ("9" : Str).length = 1 := by decide +kernel
  refine tx_wp (z := strRep ("9" : Str) (i : Int)) ?_ e (by rw [← LT.tl_len, e, List.length_replicate]; exact hi')
  rw [w_bin, w_str, w_int, o_rep ⟨⟨by omega, by omega⟩, by rw [l1]; omega⟩]
  exact ⟨rfl, rfl⟩
theorem spp_ok (hp : p.Ok) (hd : DeckAt κ j m) (hm : m < 100000) (hq : ∀ x κ', Fnd 1000 NoF 500 x → Drawn κ j (m + 61) κ' → Q x κ') : wp (I3.run tb.pgm (n + 4) "_law_spoilt_presets" [.cell j, .tup p.ds] κ) Q := by
  obtain ⟨v, hv, hv2, hv1⟩ : ∃ v : Nat, p.num = (v : Int) ∧ v ≤ 999999 ∧ 1 ≤ v := ⟨p.num.toNat, by have := hp.num; omega, by have := hp.num; omega, by have := hp.num; omega⟩
  have hN : (sNum p).length ≤ 62 := num_len hp
  have hW : p.name.length ≤ 12 := hp.len.1
  have en : LT.tl (sNum p) = LT.dgs v := by
    show LT.tl (Str.ofString (toString p.num)) = _
    rw [hv, LT.tl_nat]
  have hS : (LT.dgs v ++ [32] ++ LT.tl p.name ++ [32]).length ≤ 80 := by
    have e1 : (LT.tl p.name).length = p.name.length := LT.tl_len
    have e2 : (LT.tl (sNum p)).length = (sNum p).length := LT.tl_len
    rw [en] at e2
    simp only [List.length_append, List.length_cons, List.length_nil, e1, e2]
    omega
  have sub0 : ∀ {G : Gam} {ρ : Env'} {κ : Store}, ρ[1]? = some (some (.tup p.ds)) → Tx G (.f1 .str (.sub (.var 1) (.int 0))) ρ κ (LT.dgs v) 62 := fun h1 => num_tx (by simp only [w_sub, w_var, w_int, h1, wp_ok, t0]; exact ⟨by rw [hv], trivial⟩) (by unfold big; omega)
  have add256 : ∀ {G : Gam} {ρ : Env'} {κ : Store}, ρ[1]? = some (some (.tup p.ds)) → Tx G (.f1 .str (.bin .add (.int 256) (.sub (.var 1) (.int 0)))) ρ κ (LT.dgs (256 + v)) 62 := fun h1 => num_tx (by simp only [w_bin, w_sub, w_var, w_int, h1, wp_ok, t0, o_add]; exact ⟨by rw [hv]; rfl, trivial⟩) (by unfold big; omega)
  have name1 : ∀ {G : Gam} {ρ : Env'} {κ : Store}, ρ[1]? = some (some (.tup p.ds)) → Tx G (.sub (.var 1) (.int 1)) ρ κ (LT.tl p.name) 12 := fun h1 => tx_wp (z := p.name) (by simp only [w_sub, w_var, w_int, h1, wp_ok, t1]; (first | exact ⟨rfl, rfl⟩ | exact ⟨rfl, trivial⟩ | exact ⟨trivial, trivial⟩)) rfl hW
  refine wp_def [some (.cell j), some (.tup p.ds), none, none, none, none, none] .keep _ p__law_spoilt_presets rfl rfl rfl rfl ?_
  refine ss_asgX (l := LT.dgs v ++ [32] ++ LT.tl p.name ++ [32]) (tx_add (tx_add (tx_add (sub0 rfl) (tx_str L_0) rfl) (name1 rfl) rfl) (tx_str L_0) rfl) ?_
  refine ss_asg' ?_
  rw [w_lst, w_cons]
  rw [w_bin]
  refine Tx.use (l := LT.dgs v ++ [32] ++ LT.tl p.name ++ [32] ++ [116, 101, 120, 116, 32, 61, 32]) (tx_add (tx_varL rfl hS) (tx_str L_56) rfl) ?_
  simp only [w_call, w_cons, w_nil, w_var, w_int, List.getElem?_cons_zero, List.getElem?_cons_succ, wp_ok, gam_call, List.set_cons_zero, List.set_cons_succ]
  refine text_ok (k := 61) (by omega) hd (by omega) fun cs κ2 hl hc d1 => ?_
  have hcs : (⟨cs.toArray⟩ : Str).length = cs.length := by show cs.toArray.size = _; rw [List.size_toArray]
  have hS2 : (LT.dgs v ++ [32] ++ LT.tl p.name ++ [32] ++ [116, 101, 120, 116, 32, 61, 32]).length ≤ 87 := by
    rw [List.length_append]
    exact Nat.add_le_add hS (Nat.le_refl 7)
  rw [o_cat (by rw [LT.mkS_len, hcs]; omega)]
  have h0 := r3_ok hp hv (k := "small") (.inl rfl)
  rw [en] at h0
  refine Tx.use (l := LT.dgs v ++ [32] ++ LT.tl p.name ++ [32] ++ [116, 101, 120, 116, 32, 61]) (tx_add (tx_varL rfl hS) (tx_str L_20) rfl) ?_
  refine Tx.use (l := LT.dgs v ++ [32] ++ LT.tl p.name ++ [32] ++ [116, 101, 120, 116, 61, 32, 97]) (tx_add (tx_varL rfl hS) (tx_str L_19) rfl) ?_
  refine Tx.use (l := LT.dgs v ++ [32] ++ LT.tl p.name ++ [32] ++ [116, 101, 120, 116, 32, 32, 61, 32, 97]) (tx_add (tx_varL rfl hS) (tx_str L_18) rfl) ?_

  refine wp_if (by show 4 ≤ 16777216; omega) ?_
  rw [wp_ok]
  have eT : D.str (LT.mkS (LT.dgs v ++ [32] ++ LT.tl p.name ++ [32] ++ [116, 101, 120, 116, 32, 61, 32]) ++ (⟨cs.toArray⟩ : Str)) = tS (LT.dgs v ++ [32] ++ LT.tl p.name ++ [32] ++ [116, 101, 120, 116, 32, 61, 32] ++ cs) := by
    unfold tS
    congr 1
    refine LT.tl_inj ?_
    rw [LT.tl_app, LT.tl_mkS, LT.tl_mkS]
  rw [eT]
  have f1 : Fnd 1000 NoF 4 (.lst [tS (LT.dgs v ++ [32] ++ LT.tl p.name ++ [32] ++ [116, 101, 120, 116, 32, 61, 32] ++ cs), .str (LT.mkS (LT.dgs v ++ [32] ++ LT.tl p.name ++ [32] ++ [116, 101, 120, 116, 32, 61])), .str (LT.mkS (LT.dgs v ++ [32] ++ LT.tl p.name ++ [32] ++ [116, 101, 120, 116, 61, 32, 97])), .str (LT.mkS (LT.dgs v ++ [32] ++ LT.tl p.name ++ [32] ++ [116, 101, 120, 116, 32, 32, 61, 32, 97]))]) := by
    refine ⟨[LT.dgs v ++ [32] ++ LT.tl p.name ++ [32] ++ [116, 101, 120, 116, 32, 61, 32] ++ cs, LT.dgs v ++ [32] ++ LT.tl p.name ++ [32] ++ [116, 101, 120, 116, 32, 61], LT.dgs v ++ [32] ++ LT.tl p.name ++ [32] ++ [116, 101, 120, 116, 61, 32, 97], LT.dgs v ++ [32] ++ LT.tl p.name ++ [32] ++ [116, 101, 120, 116, 32, 32, 61, 32, 97]], rfl, fun l hl2 => ?_, Nat.le_refl _⟩
    have ql : ∀ t : List Nat, t.length ≤ 100 → (LT.dgs v ++ [32] ++ LT.tl p.name ++ [32] ++ t).length ≤ 1000 := fun t ht => by
      rw [List.length_append]
      omega
    simp only [List.mem_cons, List.not_mem_nil, or_false] at hl2
    rcases hl2 with rfl | rfl | rfl | rfl
    · exact ⟨by rw [List.length_append]; omega, p1 h0 (by omega)⟩
    · exact ⟨ql _ (by simp), q0 h0⟩
    · exact ⟨ql _ (by simp), q1 h0⟩
    · exact ⟨ql _ (by simp), q2 h0⟩
  generalize (D.lst [tS (LT.dgs v ++ [32] ++ LT.tl p.name ++ [32] ++ [116, 101, 120, 116, 32, 61, 32] ++ cs), .str (LT.mkS (LT.dgs v ++ [32] ++ LT.tl p.name ++ [32] ++ [116, 101, 120, 116, 32, 61])), .str (LT.mkS (LT.dgs v ++ [32] ++ LT.tl p.name ++ [32] ++ [116, 101, 120, 116, 61, 32, 97])), .str (LT.mkS (LT.dgs v ++ [32] ++ LT.tl p.name ++ [32] ++ [116, 101, 120, 116, 32, 32, 61, 32, 97]))]) = y1 at f1 ⊢
  refine ss_more rfl f1 (.cons (tx_add (tx_varL rfl hS) (tx_str L_17) rfl) rfl (q3 h0) (.cons (tx_add (tx_varL rfl hS) (tx_str L_16) rfl) rfl (q4 h0) (.cons (tx_add (tx_varL rfl hS) (tx_str L_15) rfl) rfl (q5 h0) (.cons (tx_add (tx_varL rfl hS) (tx_str L_14) rfl) rfl (nl0 h0) (.cons (tx_add (tx_varL rfl hS) (tx_str L_13) rfl) rfl (nl1 h0) .nil))))) rfl fun y2 f2 => ?_
  refine ss_cons' (s_for' ?_)
  rw [w_val, w_lst]
  simp only [w_cons, w_nil, w_str, wp_ok]
  refine wp_if (by show 3 ≤ 16777216; omega) ?_
  rw [wp_ok]
  refine wp_pure rfl ?_
  refine wp_for (fun i ρ κ' => κ' = κ2 ∧ ∃ y a b c, ρ = [some (.cell j), some (.tup p.ds), some (.str (LT.mkS (LT.dgs v ++ [32] ++ LT.tl p.name ++ [32]))), some y, a, b, c] ∧ Fnd 1000 NoF (9 + 40 * i) y) ⟨rfl, y2, none, none, none, rfl, f2⟩ (fun i d ρ κ' hi ⟨ek, y, a, b, c, er, fy⟩ => ?_) (fun ρ κ' ⟨ek, y, a, b, c, er, fy⟩ => ?_)
  · have hd3 : ∃ k, kind3 k ∧ d = .str (Str.ofString k) := by
      have := List.mem_of_getElem? hi
      simp only [List.mem_cons, List.not_mem_nil, or_false] at this
      rcases this with rfl | rfl | rfl
      · exact ⟨_, .inl rfl, rfl⟩
      · exact ⟨_, .inr (.inl rfl), rfl⟩
      · exact ⟨_, .inr (.inr rfl), rfl⟩
    obtain ⟨k, hk, rfl⟩ := hd3
    have h := r3_ok hp hv hk.ks
    rw [en] at h
    have hK : (Str.ofString k).length ≤ 6 := kind_len hk.ks
    subst ek er
    simp only [bindT]
    show wp (evSs _ _ [some (.cell j), some (.tup p.ds), some (.str (LT.mkS (LT.dgs v ++ [32] ++ LT.tl p.name ++ [32]))), some y, some (.str (Str.ofString k)), b, c] _) _
    refine ss_rows (B := 100) (P := badB k) (.cons (tx_str L_2) rfl (bw_0 hk) (.cons (tx_str L_0) rfl (bw_1 hk) (.cons (tx_str L_33) rfl (bw_2 hk) (.cons (tx_str L_32) rfl (bw_3 hk) (.cons (tx_str L_31) rfl (bw_4 hk) (.cons (tx_str L_30) rfl (bw_5 hk) (.cons (tx_str L_29) rfl (bw_6 hk) (.cons (tx_str L_28) rfl (bw_7 hk) (.cons (tx_str L_27) rfl (bw_8 hk) (.cons (tx_str L_26) rfl (bw_9 hk) (.cons (tx_str L_5) rfl (bw_10 hk) (.cons (tx_str L_25) rfl (bw_11 hk) (.cons (tx_str L_24) rfl (bw_12 hk) (.cons (tx_str L_23) rfl (bw_13 hk) (.cons (tx_str L_22) rfl (bw_14 hk) (.cons (tx_str L_21) rfl (bw_15 hk) .nil)))))))))))))))) rfl fun wd1 g1 => ?_
    refine ss_more rfl g1 (.cons (tx_str L_40) rfl (bw_16 hk) (.cons (big_tx (i := 19) hv hv2 rfl rfl) rfl (bdg hk (n := 10 ^ 19 + v) (by omega)) (.cons (nines 60 rfl) rfl (b60 hk) (.cons (tx_str L_39) rfl (bw_17 hk) (.cons (tx_str L_38) rfl (bw_18 hk) (.cons (tx_str L_37) rfl (bw_19 hk) (.cons (tx_str L_36) rfl (bw_20 hk) (.cons (tx_str L_35) rfl (bw_21 hk) (.cons (tx_str L_34) rfl (bw_22 hk) .nil))))))))) rfl fun wd2 g2 => ?_
    have fin : ∀ (w4 : D) (z : Nat), Fnd 100 (badB k) z w4 → z ≤ 30 → wp (evSs (tb.pgm.gam (n + 3)) ((match F__law_spoilt_presets.body with | [_, _, _, .for_ _ _ b, _] => b | _ => []).drop 4) [some (.cell j), some (.tup p.ds), some (.str (LT.mkS (LT.dgs v ++ [32] ++ LT.tl p.name ++ [32]))), some y, some (.str (Str.ofString k)), some w4, c] κ') fun f κ1 => (match f with
      | .next ρ' => (κ1 = κ' ∧ ∃ y a b c, ρ' = [some (.cell j), some (.tup p.ds), some (.str (LT.mkS (LT.dgs v ++ [32] ++ LT.tl p.name ++ [32]))), some y, a, b, c] ∧ Fnd 1000 NoF (9 + 40 * (i + 1)) y)
      | .cont ρ' => (κ1 = κ' ∧ ∃ y a b c, ρ' = [some (.cell j), some (.tup p.ds), some (.str (LT.mkS (LT.dgs v ++ [32] ++ LT.tl p.name ++ [32]))), some y, a, b, c] ∧ Fnd 1000 NoF (9 + 40 * (i + 1)) y)
      | _ => False) := by
      intro w4 z ⟨ws, e1, e2, e3⟩ hz
      subst e1
      refine ss_asg' ?_
      rw [w_bin, w_var]
      refine wp_pure rfl ?_
      rw [w_comp, w_val, w_var]
      refine wp_pure rfl ?_
      refine wp_pure rfl ?_
      refine wp_if (by rw [len_fix, List.length_map]; omega) ?_
      refine comp_fnd (B := 1000) (P := NoF) (fun d hd => ?_) fun ls h1 h2 => ?_
      · obtain ⟨T, hT1, rfl⟩ := List.mem_map.mp hd
        obtain ⟨hT, hb⟩ := e2 T hT1
        exact ⟨_, _, (tx_add (tx_add (tx_add (tx_varL rfl hS) (tx_var (z := Str.ofString k) rfl hK) rfl) (tx_str L_45) rfl) (tx_varL rfl hT) rfl), Nat.le_of_ble_eq_true rfl, w1 h hb⟩
      rw [List.length_map] at h2
      refine Fnd.app (B := 1000) (P := NoF) fy (k := 30) ⟨ls, rfl, h1, by omega⟩ (Nat.ble_eq_true_of_le (by have hi3 := (List.getElem?_eq_some_iff.mp hi).1; simp at hi3; omega)) fun y7 f7 => ?_
      refine ss_more rfl f7 (.cons (tx_add (tx_add (tx_varL rfl hS) (tx_var (z := Str.ofString k) rfl hK) rfl) (tx_str L_48) rfl) rfl (v0 h) (.cons (tx_add (tx_add (tx_varL rfl hS) (tx_var (z := Str.ofString k) rfl hK) rfl) (tx_str L_47) rfl) rfl (v1 h) (.cons (tx_add (tx_add (tx_varL rfl hS) (tx_var (z := Str.ofString k) rfl hK) rfl) (tx_str L_28) rfl) rfl (v2 h) (.cons (tx_add (tx_add (tx_varL rfl hS) (tx_var (z := Str.ofString k) rfl hK) rfl) (tx_str L_46) rfl) rfl (v3 h) .nil)))) (Nat.ble_eq_true_of_le (by have hi3 := (List.getElem?_eq_some_iff.mp hi).1; simp at hi3 ⊢; omega)) fun y8 f8 => ?_
      refine ss_nil' ?_
      obtain ⟨ls8, a8, b8, c8⟩ := f8
      exact ⟨rfl, y8, _, _, _, rfl, ls8, a8, b8, Nat.le_trans c8 (by simp; omega)⟩
    rcases hk with rfl | rfl | rfl
    · have hs : ("small" : String) = "small" ∨ ("small" : String) = "whole" := .inl rfl
      refine ss_if' ?_
      rw [t_neS rfl, if_pos (by decide)]
      refine ss_more rfl g2 (.cons (tx_str L_41) rfl (bw_m1 hs) (.cons (tx_add (tx_str L_5) (sub0 rfl) rfl) rfl (bneg hs hv1) .nil)) rfl fun w3 g3 => ?_
      refine ss_nil' ?_
      refine ss_if' ?_
      rw [t_eqS rfl, if_pos (by decide)]
      refine ss_more rfl g3 (.cons (tx_str L_44) rfl bw_c1 (.cons (add256 rfl) rfl (b256 hv1) (.cons (tx_str L_43) rfl bw_c2 .nil))) rfl fun w4 g4 => ?_
      refine ss_nil' ?_
      refine wp_mono (fin _ _ g4 (Nat.le_of_ble_eq_true rfl)) fun f κ5 z => ?_
      cases f with
      | next ρ' => exact z
      | cont ρ' => exact z
      | brk ρ' => exact z.elim
      | ret _ => exact z.elim
      | exc _ _ _ => exact z.elim
    · have hs : ("whole" : String) = "small" ∨ ("whole" : String) = "whole" := .inr rfl
      refine ss_if' ?_
      rw [t_neS rfl, if_pos (by decide)]
      refine ss_more rfl g2 (.cons (tx_str L_41) rfl (bw_m1 hs) (.cons (tx_add (tx_str L_5) (sub0 rfl) rfl) rfl (bneg hs hv1) .nil)) rfl fun w3 g3 => ?_
      refine ss_nil' ?_
      refine ss_if' ?_
      rw [t_eqS rfl, if_neg (by decide)]
      refine ss_nil' ?_
      refine wp_mono (fin _ _ g3 (Nat.le_of_ble_eq_true rfl)) fun f κ5 z => ?_
      cases f with
      | next ρ' => exact z
      | cont ρ' => exact z
      | brk ρ' => exact z.elim
      | ret _ => exact z.elim
      | exc _ _ _ => exact z.elim
    · refine ss_if' ?_
      rw [t_neS rfl, if_neg (by decide)]
      refine ss_more rfl g2 (.cons (tx_str L_42) rfl bw_s1 (.cons (tx_add (tx_str L_5) (nines 20 rfl) rfl) rfl b20 .nil)) rfl fun w3 g3 => ?_
      refine ss_nil' ?_
      refine ss_if' ?_
      rw [t_eqS rfl, if_neg (by decide)]
      refine ss_nil' ?_
      refine wp_mono (fin _ _ g3 (Nat.le_of_ble_eq_true rfl)) fun f κ5 z => ?_
      cases f with
      | next ρ' => exact z
      | cont ρ' => exact z
      | brk ρ' => exact z.elim
      | ret _ => exact z.elim
      | exc _ _ _ => exact z.elim
  · subst ek er
    refine ss_ret' ?_
    rw [w_var]
    refine wp_pure rfl ?_
    rw [e_keep]
    obtain ⟨ls8, a8, b8, c8⟩ := fy
    exact hq _ _ ⟨ls8, a8, b8, Nat.le_trans c8 (by simp)⟩ d1
end

end My

set_option Elab.async false
set_option linter.all false
set_option maxRecDepth 100000
set_option maxHeartbeats 1000000
namespace My
open PySem PyProof.Rows I3
--hb 1000000
section
variable {n j m : Nat} {κ : Store} {Q : D → Store → Prop} {p : P4}
theorem same_run (hp : p.Ok) (hf : FlatS κ) : I3.run tb.pgm (n + 6) "_law_same" [p.fld, .tup p.ds] κ = .ok (.bl true) κ := by
  refine wp_eq (wp_def [some p.fld, some (.tup p.ds)] .keep _ p__law_same rfl rfl rfl rfl (ss_ret' ?_))
  have hk : opIsC (tb.pgm.gam (n + 5)) "Field" p.fld κ = some true := ko_Field_Field
  have md : I3.run tb.pgm (n + 5) "_law_made" [.tup p.ds] κ = .ok p.fld κ := made_run hp hf
  have eq : ∀ Q : D → Store → Prop, wp (opEqo (tb.pgm.gam (n + 5)) false p.fld p.fld κ) Q = Q (.bl (eqF p p)) κ := fun Q => eqo_n (n := n + 4) hp hp
  simp [kc_Field, hk, md, eq, eqF_self hp]
theorem lineF_eq (h : p.pre ≠ .non) : lineF p = Str.ofString (toString p.num) ++ Str.ofString " " ++ p.name ++ Str.ofString " " ++ Str.ofString p.kind ++ Str.ofString " = " ++ preS p.pre := by
  unfold lineF lineS
  split
  · exact absurd (by assumption) h
  · rfl
end
theorem law_true (ns : List Int) (hl : ns.length ≤ 63) : ∃ κ, I3.run tb.pgm 60 "law" [.lst (ns.map D.int)] [] = .ok (.bl true) κ := by
  have key : wp (I3.run tb.pgm (59 + 1) "law" [.lst (ns.map D.int)] []) fun a _ => a = .bl true := by
    refine wp_def [some (.lst (ns.map D.int)), none, none, none, none, none, none, none, none] .keep _ p_law rfl rfl rfl rfl (ss_cons' (s_for' (wp_rng1 ?_)))
    simp only [w_max2, w_min2, w_int, w_f1, w_var, wp_ok]
    simp
    refine ⟨by split <;> split <;> omega, ?_⟩
    generalize hN : (if 1 < if (ns.length : Int) < 8 then (ns.length : Int) else 8 then if (ns.length : Int) < 8 then (ns.length : Int) else 8 else 1) = N
    have hN2 : 1 ≤ N ∧ N ≤ 8 := by
      rw [← hN]
      split <;> split <;> omega
    refine wp_for (fun i ρ κ => (∃ a b c d e f g h, ρ = [some (.lst (ns.map D.int)), a, b, c, d, e, f, g, h]) ∧ FlatS κ) ⟨⟨_, _, _, _, _, _, _, _, rfl⟩, FlatS.nil⟩ (fun i d ρ κ hi ⟨⟨a, b, c, d', e', f, g, h, e⟩, hf⟩ => ?_) (fun ρ κ ⟨⟨a, b, c, d', e', f, g, h, e⟩, hf⟩ => ?_)
    · obtain ⟨hi, rfl⟩ := rangeD_get hi
      subst e
      simp only [bindT, Int.zero_add]
      refine ss_asg' ?_
      simp
      refine deck p__law_deck (by omega) fun dk hdk => ?_
      have hf1 := hf.deck hdk
      refine ss_asg' ?_
      simp
      refine row_ok (n := 54) hdk (by omega) fun p κ1 hp vp d1 => ?_
      have hf2 := hf1.drawn d1
      have lr : ∀ {p : P4} (hp : p.Ok) {κ : Store}, I3.run tb.pgm 59 "_law_line" [.tup p.ds] κ = .ok (.str (lineF p)) κ := fun hp => line_run (n := 58) hp
      have rf : ∀ {p : P4} (hp : p.Ok) (vp : visD p.pre) {κ : Store} (hf : FlatS κ), I3.run tb.pgm 59 "read_field" [.str (lineF p)] κ = .ok p.fld κ := fun hp vp _ hf => read_line (n := 54) hp vp hf
      have sm : ∀ {p : P4} (hp : p.Ok) {κ : Store} (hf : FlatS κ), I3.run tb.pgm 59 "_law_same" [p.fld, .tup p.ds] κ = .ok (.bl true) κ := fun hp _ hf => same_run (n := 53) hp hf
      have tr : ∀ (b : Bool) (κ : Store), truth (.bl b) κ = some b := fun b κ => rfl
      refine ss_if' ?_
      simp only [t_not, t_e, w_call, w_cons, w_nil, w_var, List.getElem?_cons_zero, List.getElem?_cons_succ, wp_ok, gam_call, lr hp, rf hp vp hf2, sm hp hf2, tr, Bool.not_true, Bool.false_eq_true, if_false]
      refine ss_nil' ?_
      refine ss_cons' (s_for' ?_)
      rw [w_val, w_bin]
      simp only [w_call, w_cons, w_nil, w_var, List.getElem?_cons_zero, List.getElem?_cons_succ, wp_ok, gam_call]
      refine spw_ok (n := 56) hp d1.1 (by omega) fun x κ2 fx d2 => ?_
      refine spp_ok (n := 55) hp d2.1 (by omega) fun y κ3 fy d3 => ?_
      have hf4 := (hf2.drawn d2).drawn d3
      refine Fnd.app (B := 1000) (P := NoF) fx fy rfl fun z fz => ?_
      obtain ⟨ls, rfl, a2, a3⟩ := fz
      refine wp_pure rfl ?_
      refine wp_for (fun t ρ κ' => κ' = κ3 ∧ ∃ q e f g h s, ρ = [some (.lst (ns.map D.int)), some (.int (i : Int)), q, some (.tup p.ds), e, f, g, h, s]) ⟨rfl, _, _, _, _, _, _, rfl⟩ (fun i2 d2 ρ κ' hi2 ⟨ek, q, e, f, g, h, s, er⟩ => ?_) (fun ρ κ' ⟨ek, q, e, f, g, h, s, er⟩ => ?_)
      · subst ek er
        obtain ⟨l, hl2, rfl⟩ := List.mem_map.mp (List.mem_of_getElem? hi2)
        have hz := (a2 l hl2).1
        have rn : I3.run tb.pgm 59 "read_field" [.str (LT.mkS l)] κ' = .ok .non κ' := by
          rw [readf_n (n := 54) (by rw [LT.mkS_len]; exact hz) hf4, (a2 l hl2).2.rfld]
          rfl
        refine ss_if' ?_
        simp only [t_cmp, w_cmp, w_call, w_cons, w_nil, w_var, w_non, List.getElem?_cons_zero, List.getElem?_cons_succ, List.set_cons_zero, List.set_cons_succ, wp_ok, gam_call, tS, rn, o_notn, isNonD, tr, Bool.not_true, Bool.false_eq_true, if_false]
        refine ss_nil' ?_
        refine ss_nil' ?_
        exact ⟨rfl, _, _, _, _, _, _, rfl⟩
      · subst ek er
        refine ss_cons' (s_for' ?_)
        rw [w_val, w_lst]
        have l3 : ∀ (a b c : D) (Q : D → Store → Prop), wp (if ([a, b, c] : List D).length ≤ 16777216 then Res.ok (.tup [a, b, c]) κ' else .bad) Q = Q (.tup [a, b, c]) κ' := fun a b c Q => by
          rw [if_pos (by show 3 ≤ 16777216; omega), wp_ok]
        have l4 : ∀ (a b c d : D) (Q : D → Store → Prop), wp (if ([a, b, c, d] : List D).length ≤ 16777216 then Res.ok (.lst [a, b, c, d]) κ' else .bad) Q = Q (.lst [a, b, c, d]) κ' := fun a b c d Q => by
          rw [if_pos (by show 4 ≤ 16777216; omega), wp_ok]
        have l4t : ∀ (a b c d : D) (Q : D → Store → Prop), wp (if ([a, b, c, d] : List D).length ≤ 16777216 then Res.ok (.tup [a, b, c, d]) κ' else .bad) Q = Q (.tup [a, b, c, d]) κ' := fun a b c d Q => by
          rw [if_pos (by show 4 ≤ 16777216; omega), wp_ok]
        simp only [w_cons, w_nil, w_tup, w_str, w_int, w_neg, wp_ok, l3, l4]
        refine wp_pure rfl ?_
        refine wp_for (fun t ρ κ2 => κ2 = κ' ∧ ∃ q e f g h s, ρ = [some (.lst (ns.map D.int)), some (.int (i : Int)), q, some (.tup p.ds), e, f, g, h, s]) ⟨rfl, _, _, _, _, _, _, rfl⟩ (fun i2 d2 ρ κ2 hi2 ⟨ek, q, e, f, g, h, s, er⟩ => ?_) (fun ρ κ2 ⟨ek, q, e, f, g, h, s, er⟩ => ?_)
        · subst ek er
          have hq : ∃ (z : String) (k : String) (w : D), d2 = .tup [.str (Str.ofString z), .str (Str.ofString k), w] ∧ kindS k ∧ Good w ∧ presB k w = true ∧ txtOk w ∧ visD w ∧ preS w = Str.ofString z ∧ w ≠ .non ∧ (Str.ofString z).length ≤ 10 := by
            have hm := List.mem_of_getElem? hi2
            simp only [List.mem_cons, List.not_mem_nil, or_false] at hm
            rcases hm with rfl | rfl | rfl | rfl
            · exact ⟨_, _, _, rfl, .inl rfl, .int _, by decide +kernel, trivial, trivial, by decide +kernel, by simp, by decide +kernel⟩
            · exact ⟨_, _, _, rfl, .inr (.inl rfl), .int _, by decide +kernel, trivial, trivial, by decide +kernel, by simp, by decide +kernel⟩
            · exact ⟨_, _, _, rfl, .inr (.inr (.inl rfl)), .int _, by decide +kernel, trivial, trivial, by decide +kernel, by simp, by decide +kernel⟩
            · exact ⟨_, _, _, rfl, .inr (.inr (.inr rfl)), .str _ (by decide +kernel), by decide +kernel, by unfold txtOk; decide +kernel, by unfold visD; decide +kernel, by decide +kernel, by simp, by decide +kernel⟩
          obtain ⟨z, k, w, rfl, hk, gw, bw, tw, vw, pw, nw, zl⟩ := hq
          have hg : P4.Ok ⟨p.num, p.name, k, w⟩ := ⟨hp.num, hp.name, hk, gw, bw, tw⟩
          have eds : D.tup [.int p.num, .str p.name, .str (Str.ofString k), w] = .tup (P4.ds ⟨p.num, p.name, k, w⟩) := rfl
          simp only [bindT, bindTs]
          refine ss_asg' ?_
          simp only [w_tup, w_cons, w_nil, w_sub, w_var, w_int, List.getElem?_cons_zero, List.getElem?_cons_succ, List.set_cons_zero, List.set_cons_succ, wp_ok, t0, t1, eds]
          refine wp_if (by show 4 ≤ 16777216; omega) ?_
          rw [wp_ok]
          refine ss_if' ?_
          have a1 := num_len hp
          have a2 := hp.len
          have a3 := kind_len hk
          have s1 : (Str.ofString " ").length = 1 := by decide +kernel
          have s3 : (Str.ofString " = ").length = 3 := by decide +kernel
          have el := lineF_eq (p := ⟨p.num, p.name, k, w⟩) nw
          rw [show preS (P4.pre ⟨p.num, p.name, k, w⟩) = Str.ofString z from pw] at el
          simp only [t_not, t_e, w_call, w_cons, w_nil, w_bin, w_f1, w_sub, w_var, w_int, w_str, List.getElem?_cons_zero, List.getElem?_cons_succ, wp_ok, gam_call, t0, t1]
          rw [o_strI hp.nums, o_cat (by rw [s1]; omega), o_cat (by rw [str_len, s1]; omega), o_cat (by rw [str_len, str_len, s1]; omega), o_cat (by rw [str_len, str_len, str_len, s1]; omega), o_cat (by rw [str_len, str_len, str_len, str_len, s1, s3]; omega), o_cat (by rw [str_len, str_len, str_len, str_len, str_len, s1, s3]; omega)]
          rw [← el, rf hg vw hf4, wp_ok, sm hg hf4, wp_ok]
          simp only [tr, wp_ok, Bool.not_true, Bool.false_eq_true, if_false]
          refine ss_nil' ?_
          refine ss_nil' ?_
          exact ⟨rfl, _, _, _, _, _, _, rfl⟩
        · subst ek er
          refine ss_if' ?_
          simp only [t_not, t_e, w_call, w_cons, w_nil, w_var, List.getElem?_cons_zero, List.getElem?_cons_succ, wp_ok, gam_call, lr hp, rf hp vp hf4, sm hp hf4, tr, Bool.not_true, Bool.false_eq_true, if_false]
          refine ss_nil' ?_
          refine ss_nil' ?_
          exact ⟨⟨_, _, _, _, _, _, _, _, rfl⟩, hf4⟩
    · subst e
      refine ss_ret' ?_
      simp
  obtain ⟨a, κ, e, rfl⟩ := wp_get key
  exact ⟨κ, e⟩

end My

set_option Elab.async false
set_option linter.all false
set_option maxRecDepth 100000
set_option maxHeartbeats 0
namespace My
open PySem PySem.Spec PyProof.Rows L2 I3
theorem facts {P : Program} {w : World} {K : PySem.W.Frag} {h : Heap} {mg : Str → Option Value} {f : Addr} (X : K.In h) (G : h.Ns mainGlobals mg) (hfa : mg ("law" : Str) = some (.ref f)) (c : SaysI tb K) :
    ∃ fd : FuncData, (∀ (s : Shared) (v : Value), BindsTo s fd ⟨[v], []⟩ [("_law_script", v)]) ∧ ∀ base : Heap, K.In base → base.Ns mainGlobals mg → FnOk P w K mg base CXI 60 f fd ["_law_script"] (spC K 1 (I3.run0 tb.pgm 60 "law")) :=
  law_facts (d := d_law) X G hfa c wf wf2 wf3 bd (List.mem_of_getElem? (i := 20) rfl) rfl rfl rfl
end My
open PySem PySem.W PySem.Calls PyProof.Rows I3
theorem PySem.Challenge.cw_letineditions_k62_lines_refused_holds : PySem.Challenge.rw_letineditions_k62_lines_refused.Holds := by
  w_on; o_law
  refine HandSHeadRun.head_any (r := OpenLaw.row PySem.Challenge.rw_letineditions_k62_lines_refused) (q := view (OpenLaw.row PySem.Challenge.rw_letineditions_k62_lines_refused).prog [31]) (H := My.hk) (ob := My.ob) (M := 30000) (loose := My.names) (d := HandSHeadRun.topDef (OpenLaw.row PySem.Challenge.rw_letineditions_k62_lines_refused).prog 31) (kwd := []) My.ob_eq
    (by kernel_rfl) (fun s => by kernel_rfl) My.run (by kernel_rfl) (by kernel_rfl) (by kernel_rfl) (by rfl) (by first | assumption | decide +kernel) (by decide +kernel) ⟨rfl, rfl, rfl, rfl, rfl, by decide +kernel⟩ ?hw ?hc
  case hw => w_witness2
  case hc =>
    refine L2.walk_ofE (l := PySem.Challenge.rw_letineditions_k62_lines_refused) (n := 63) (k := 60) (x := "_law_script") (CX := CXI) rfl (by decide) (by kernel_rfl) ⟨rfl, by decide, by decide⟩ ?F ?G
    case G => exact fun H s e s' z => cx_none z
    intro w mg fa h Y G hmg0
    obtain ⟨K, KX, c⟩ := Y
    have hmg : mg ("law" : PySem.Str) = some (.ref fa) := by
      have e : (HandSHeadRun.topDef (OpenLaw.row PySem.Challenge.rw_letineditions_k62_lines_refused).prog 31).name = ("law" : PySem.Str) := by kernel_rfl
      rw [← e]
      exact hmg0
    obtain ⟨fd, hb, hF⟩ := My.facts (P := (PySem.Challenge.rw_letineditions_k62_lines_refused).prog) (w := w) KX G hmg c
    exact ⟨K, fd, _, KX, hb, fun H a ns hl _ hS => law_sp hS (run_eq (P := My.tb.pgm) ▸ My.law_true ns hl), hF⟩
