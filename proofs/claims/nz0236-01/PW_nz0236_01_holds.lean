import PyProof.Rows.All
import Wide.All
import OpenK.AllK
import Wide.FinOn
import PySem.Challenge.RW_nz0236_01
set_option Elab.async false
set_option maxRecDepth 100000
set_option maxHeartbeats 8000000
section
open PySem PySem.W PyProof.Rows
namespace Mine
open_top hd for PySem.Challenge.rw_nz0236_01
end Mine
end
section
open PySem PySem.W PyProof.Rows PySem.Calls
namespace Mine
section
variable {prog : Program} {w : World} {A : Around} {E : Value → Shared → Prop} {s : Shared}
abbrev tupObj (r : Int × Int × Int) (t1 t2 t3 : Tok) : Obj := { cls := .type "tuple", data := .seq #[.int r.1 t1, .int r.2.1 t2, .int r.2.2 t3] }
abbrev Stays (h h' : Heap) : Prop := ∀ b o, h.get? b = some o → h'.get? b = some o
theorem stays_update {h0 h h' : Heap} {d : Addr} (k : Stays h0 h) (hd : h0.get? d = none) (hs : Heap.SameBut d h h') : Stays h0 h' := fun b o e =>
  (hs.2 b fun q => by rw [q, hd] at e; cases e).trans (k b o e)
theorem dictPut_pairs {K : Type} [DecidableEq K] {knd : KeyKind prog w K} {d : Addr} {kvs : List (K × Value)} {k : K} {key v : Value} {Q : Unit → Shared → Prop} (hkey : knd.is k key = true) (hm : s.heap.DictOf knd d kvs)
    (hnew : k ∉ kvs.map (·.1)) (hsz : kvs.length ≤ sizeLine)
    (hQ : ∀ h', h'.DictOf knd d (kvs ++ [(k, v)]) → Heap.SameBut d s.heap h' → Q () { s with heap := h' }) :
    wpAny (model prog w) A (dictPut d (knd.hash k) key v) Q E s := by
  obtain ⟨o, es, ep, ho, hc, hd, hk, hp, hn⟩ := hm
  have hes : es.size ≤ sizeLine := by
    have e1 := hp.length
    have e2 : es.toList.length = es.size := by simp
    omega
  unfold dictPut
  refine wpAny_bind (wpAny_dictFind_of hkey ho hd hk ?_)
  have hidx : (es.findIdx? fun e => knd.is k e.key) = kvs.findIdx? fun kv => decide (kv.1 = k) := by
    rw [← hp.findIdx k]; obtain ⟨l⟩ := es; simp
  have hany : (kvs.any fun kv => decide (kv.1 = k)) = false := by
    rw [Bool.eq_false_iff]
    intro q
    obtain ⟨kv, hkv, he⟩ := List.any_eq_true.mp q
    exact hnew (List.mem_map.mpr ⟨kv, hkv, of_decide_eq_true he⟩)
  have hnone : (es.findIdx? fun e => knd.is k e.key) = none := by
    rw [hidx]
    cases q : kvs.findIdx? fun kv => decide (kv.1 = k) with
    | none => rfl
    | some i => rw [any_of_findIdx_some q] at hany; cases hany
  rw [hnone]
  refine wpAny_updateDictKeys (hz := hes) ho hd (hQ _ ⟨_, _, ep + 1, Heap.get?_update_self _ ho (Obj.isFreed_of_dict (Obj.data_mapDictKeys hd _)),
      hc.mapDictKeys _, Obj.data_mapDictKeys hd _, hk.push hkey _, ?_, ?_⟩ (Heap.SameBut.update ..))
  · have := hp.append hkey (knd.hash k) v
    obtain ⟨l⟩ := es
    simpa using this
  · rw [List.map_append, List.nodup_append]
    refine ⟨hn, by simp, ?_⟩
    intro a ha b hb
    simp only [List.map_cons, List.map_nil, List.mem_singleton] at hb
    subst hb
    exact fun e => hnew (e ▸ ha)
theorem stored_new {K : Type} [DecidableEq K] {kvs : List (K × Value)} {k : K} {v : Value} (hnew : k ∉ kvs.map (·.1)) : stored kvs k v = kvs ++ [(k, v)] := by
  unfold stored
  rw [if_neg]
  intro q
  obtain ⟨kv, hkv, he⟩ := List.any_eq_true.mp q
  exact hnew (List.mem_map.mpr ⟨kv, hkv, of_decide_eq_true he⟩)

def KeyGives (M : Model) (A : Around) (t : Sem Value) (k : Int) : Prop := ∀ (E : Value → Shared → Prop) (s : Shared) (Q : Value → Shared → Prop), (∀ u tk, Q (.int k u) { s with toks := tk }) → wpAny M A t Q E s
def TupGives (M : Model) (A : Around) (t : Sem Value) (r : Int × Int × Int) : Prop := ∀ (E : Value → Shared → Prop) (s : Shared) (Q : Value → Shared → Prop), (∀ t1 t2 t3 tk, Q (.ref s.heap.objs.size) { s with heap := s.heap.push (tupObj r t1 t2 t3), toks := tk }) → wpAny M A t Q E s
inductive PairsGive (M : Model) (A : Around) : List (Sem Value × Sem Value) → List (Int × Int × Int × Int) → Prop
  | nil : PairsGive M A [] []
  | cons {t v : Sem Value} {r : Int × Int × Int × Int} {ps : List (Sem Value × Sem Value)} {rs : List (Int × Int × Int × Int)} : KeyGives M A t r.1 → TupGives M A v r.2 → PairsGive M A ps rs → PairsGive M A ((t, v) :: ps) (r :: rs)
inductive RowsAt (h0 h : Heap) (d : Addr) : List (Int × Value) → List (Int × Int × Int × Int) → Prop
  | nil : RowsAt h0 h d [] []
  | cons {a : Addr} {t1 t2 t3 : Tok} {r : Int × Int × Int × Int} {kvs : List (Int × Value)} {rs : List (Int × Int × Int × Int)} : a ≠ d → h0.get? a = none → h.get? a = some (tupObj r.2 t1 t2 t3) → RowsAt h0 h d kvs rs → RowsAt h0 h d ((r.1, .ref a) :: kvs) (r :: rs)
theorem RowsAt.append {h0 h : Heap} {d : Addr} {kvs kvs' : List (Int × Value)} {rs rs' : List (Int × Int × Int × Int)} (x : RowsAt h0 h d kvs rs) (y : RowsAt h0 h d kvs' rs') : RowsAt h0 h d (kvs ++ kvs') (rs ++ rs') := by
  induction x with
  | nil => exact y
  | cons a b c _ ih => exact .cons a b c ih
theorem RowsAt.mono {h0 h0' h h' : Heap} {d d' : Addr} {kvs : List (Int × Value)} {rs : List (Int × Int × Int × Int)} (x : RowsAt h0 h d kvs rs) (hd : ∀ a, a ≠ d → h0.get? a = none → (∃ o, h.get? a = some o) → a ≠ d' ∧ h0'.get? a = none ∧ ∀ o, h.get? a = some o → h'.get? a = some o) : RowsAt h0' h' d' kvs rs := by
  induction x with
  | nil => exact .nil
  | cons a b c _ ih =>
    obtain ⟨p, q, r⟩ := hd _ a b ⟨_, c⟩
    exact .cons p q (r _ c) ih
theorem RowsAt.keys {h0 h : Heap} {d : Addr} {kvs : List (Int × Value)} {rs : List (Int × Int × Int × Int)} (x : RowsAt h0 h d kvs rs) : kvs.map (·.1) = rs.map (·.1) := by
  induction x with
  | nil => rfl
  | cons _ _ _ _ ih => rw [List.map_cons, List.map_cons, ih]
theorem RowsAt.length {h0 h : Heap} {d : Addr} {kvs : List (Int × Value)} {rs : List (Int × Int × Int × Int)} (x : RowsAt h0 h d kvs rs) : kvs.length = rs.length := by
  induction x with
  | nil => rfl
  | cons _ _ _ _ ih => rw [List.length_cons, List.length_cons, ih]
theorem fresh_none {h0 h : Heap} (k : Stays h0 h) : h0.get? h.objs.size = none := by
  cases q : h0.get? h.objs.size with
  | none => rfl
  | some o => exact absurd (Heap.lt_size (k _ _ q)) (Nat.lt_irrefl _)

theorem long_loop {d : Addr} {h0 : Heap} {ps : List (Sem Value × Sem Value)} {rs : List (Int × Int × Int × Int)} (hps : PairsGive (model prog w) A ps rs) (hd0 : h0.get? d = none) : ∀ {kvs : List (Int × Value)} {done : List (Int × Int × Int × Int)} {s : Shared} {Q : PUnit → Shared → Prop},
    Stays h0 s.heap → s.heap.DictOf (PySem.intKind prog w) d kvs → RowsAt h0 s.heap d kvs done → ((done ++ rs).map (·.1)).Nodup → (done ++ rs).length ≤ 1000 →
    (∀ h' tk kvs', Stays h0 h' → h'.DictOf (PySem.intKind prog w) d kvs' → RowsAt h0 h' d kvs' (done ++ rs) → Q PUnit.unit { s with heap := h', toks := tk }) →
    wpAny (model prog w) A (forIn ps PUnit.unit fun (x : Sem Value × Sem Value) (_ : PUnit) => (do let kv ← x.1; let vv ← holding [kv] x.2; holding [kv, vv] (dictSet d kv vv); pure (ForInStep.yield PUnit.unit) : Sem (ForInStep PUnit))) Q E s := by
  induction hps with
  | nil =>
    intro kvs done s Q st hd hr hn hl hQ
    rw [List.forIn_nil]
    rw [List.append_nil] at hQ
    exact wpAny_pure (hQ s.heap s.toks kvs st hd hr)
  | @cons t v r ps rs hk hv _ ih =>
    intro kvs done s Q st hd hr hn hl hQ
    rw [List.forIn_cons]
    have e : done ++ r :: rs = (done ++ [r]) ++ rs := by simp
    rw [e] at hn hl hQ
    refine wpAny_bind (wpAny_bind (hk _ _ _ fun u tk => ?_))
    refine wpAny_bind (wpAny_holding (hv _ _ _ fun t1 t2 t3 tk' => ?_))
    have hdl : d ≠ s.heap.objs.size := by
      obtain ⟨o, es, ep, ho, _⟩ := hd
      exact Nat.ne_of_lt (Heap.lt_size ho)
    have hnew : r.1 ∉ kvs.map (·.1) := by
      rw [hr.keys]
      intro q
      rw [List.map_append, List.map_append, List.nodup_append] at hn
      have h2 := (List.nodup_append.mp hn.1).2.2
      exact h2 r.1 q r.1 (by simp) rfl
    have hlen := hr.length
    have hl2 : done.length ≤ 1000 := by
      rw [List.length_append, List.length_append] at hl; omega
    refine wpAny_bind (wpAny_holding (wpAny_dictSet_pairs (knd := PySem.intKind prog w) (k := r.1) (intKind_is _ _ _ _) (hd.push _) (fun h' hd' hs => ?_) (by rw [sizeLine_eq]; omega)))
    rw [stored_new hnew] at hd'
    refine wpAny_pure (ih (stays_update (fun b o q => Heap.get?_push_of_some _ (st b o q)) hd0 hs) hd' (RowsAt.append ?_ (.cons (t1 := t1) (t2 := t2) (t3 := t3) ?_ ?_ ?_ .nil)) hn hl fun h'' tk'' kvs'' a b c => hQ h'' tk'' kvs'' a b c)
    · refine hr.mono fun a ha h0a _ => ⟨ha, h0a, fun o q => ?_⟩
      exact (hs.2 a ha).trans (Heap.get?_push_of_some _ q)
    · exact fun q => hdl q.symm
    · exact fresh_none st
    · exact (hs.2 _ fun q => hdl q.symm).trans (Heap.get?_push_size _ rfl)

theorem subDict_long {ps : List (Sem Value × Sem Value)} {rs : List (Int × Int × Int × Int)} {Q : Addr → Shared → Prop} (hps : PairsGive (model prog w) A ps rs) (hlo : ¬ ps.length ≤ 15) (hn : (rs.map (·.1)).Nodup) (hl : rs.length ≤ 1000)
    (h : ∀ h' tk kvs, Stays s.heap h' → h'.DictOf (PySem.intKind prog w) s.heap.objs.size kvs → RowsAt s.heap h' s.heap.objs.size kvs rs → Q s.heap.objs.size { s with heap := h', toks := tk }) :
    wpAny (model prog w) A (subDict ps) Q E s := by
  unfold subDict
  refine wpAny_bind (wpAny_alloc ?_)
  refine wpAny_bind (wpAny_holding ?_)
  rw [if_neg hlo]
  refine wpAny_bind (wpAny_rule ?_)
  refine wpAny_bind ?_
  refine long_loop hps (d := s.heap.objs.size) (h0 := s.heap) (done := []) (kvs := []) (fresh_none fun _ _ e => e) (fun b o e => Heap.get?_push_of_some _ e) (Heap.DictOf.new s.heap) .nil (by simpa using hn) (by simpa using hl) fun h' tk kvs' a b c => ?_
  exact wpAny_pure (wpAny_pure (h h' tk kvs' a b c))
end
end Mine
end
section
open PySem PySem.W PyProof.Rows PySem.Calls
namespace Mine
section
variable {prog : Program} {w : World} {A : Around} {E : Value → Shared → Prop} {s : Shared}
theorem merge_new {d o : Addr} {kvs more : List (Int × Value)} {Q : Unit → Shared → Prop} (hdo : d ≠ o) (hoS : (o == sysModules) = false) (hne : kvs ≠ [])
    (hd : s.heap.DictOf (PySem.intKind prog w) d kvs) (ho : s.heap.DictOf (PySem.intKind prog w) o more) (hn : ((kvs ++ more).map (·.1)).Nodup) (hsz : (kvs ++ more).length ≤ 1000)
    (hQ : ∀ h', h'.DictOf (PySem.intKind prog w) d (kvs ++ more) → Heap.SameBut d s.heap h' → Q () { s with heap := h' }) :
    wpAny (model prog w) A (mergeMapping d (.ref o) false) Q E s := by
  obtain ⟨od, esd, epd, hod, hcd, hdd, hkd, hpd, hnd⟩ := id hd
  obtain ⟨oo, eso, epo, hoo, hco, hdo', hko, hpo, hno⟩ := id ho
  have hlen : more.length = eso.size := by rw [← hpo.length]; simp
  unfold mergeMapping
  refine wpAny_bind (wpAny_isInstance ho.typeIs isSubtype_dict_dict ?_)
  dsimp only
  rw [if_pos rfl]
  refine wpAny_bind (wpAny_specialOf ho.typeIs F.slot_dict_iter.lookup ?_)
  refine wpAny_bind (wpAny_pure ?_)
  simp only [beq_self_eq_true]
  rw [if_neg (by rw [hoS]; exact Bool.false_ne_true)]
  refine wpAny_bind (wpAny_dictEntries hod hdd ?_)
  rw [if_neg (by
    intro q
    have h0 : esd = #[] := Array.isEmpty_iff.mp q
    have := hpd.length
    rw [h0] at this
    exact hne (List.length_eq_zero_iff.mp (by simpa using this.symm)))]
  refine wpAny_bind (wpAny_dictEntries hoo hdo' ?_)
  refine wpAny_bind (wpAny_dictEpoch hoo hdo' ?_)
  refine wpAny_bind ?_
  rw [List.range_eq_range']
  refine wpAny_forIn_list _
    (fun rest _ s' => ∃ h' i, s' = { s with heap := h' } ∧ rest = List.range' i (eso.size - i) ∧ i ≤ eso.size ∧ h'.DictOf (PySem.intKind prog w) d (kvs ++ more.take i) ∧ h'.get? o = some oo ∧ Heap.SameBut d s.heap h')
    _ ?_ ?_ _ _ ⟨s.heap, 0, rfl, by simp, Nat.zero_le _, by simpa using hd, hoo, Heap.SameBut.refl _ _⟩
  · rintro x rest b s' ⟨h', i, rfl, hr, hi, hd', hoo', hs'⟩
    have hlt : i < eso.size := by
      rcases Nat.lt_or_ge i eso.size with h | h
      · exact h
      · rw [Nat.sub_eq_zero_of_le h] at hr; simp at hr
    obtain ⟨rfl, hrest⟩ : x = i ∧ rest = List.range' (i + 1) (eso.size - (i + 1)) := by
      have e : eso.size - i = (eso.size - (i + 1)) + 1 := by omega
      rw [e, List.range'_succ] at hr
      injection hr with h1 h2
      exact ⟨h1, h2⟩
    refine wpAny_bind (wpAny_dictEntries hoo' hdo' ?_)
    rw [Array.getElem?_eq_getElem hlt]
    obtain ⟨kv, hkv⟩ : ∃ kv, more[x]? = some kv := ⟨more[x]'(by rw [hlen]; exact hlt), List.getElem?_eq_getElem _⟩
    obtain ⟨k, v⟩ := kv
    obtain ⟨hkey, hval⟩ := hpo.get? (e := eso[x]) (by simp [hlt]) hkv
    obtain ⟨k', hkey', hhash⟩ := hko eso[x] (Array.getElem_mem hlt)
    obtain rfl : k' = k := (PySem.intKind prog w).inj _ _ _ hkey' hkey
    dsimp only
    rw [if_neg (by decide), hhash, hval]
    have htake : more.take (x + 1) = more.take x ++ [(k', v)] := by simp [List.take_add_one, hkv]
    have hnew : k' ∉ (kvs ++ more.take x).map (·.1) := by
      have e2 : kvs ++ more = (kvs ++ more.take x ++ [(k', v)]) ++ more.drop (x + 1) := by
        rw [List.append_assoc kvs, ← htake, List.append_assoc, List.take_append_drop]
      rw [e2] at hn
      intro q
      rw [List.map_append, List.map_append, List.nodup_append] at hn
      exact (List.nodup_append.mp hn.1).2.2 k' q k' (by simp) rfl
    have hmx : (kvs ++ more.take x).length ≤ sizeLine := by
      rw [List.length_append] at hsz ⊢
      have e1 : (more.take x).length ≤ more.length := by rw [List.length_take]; omega
      rw [sizeLine_eq]; omega
    refine wpAny_bind (wpAny_holding (dictPut_pairs hkey hd' hnew hmx fun h'' hd'' hs'' => ?_))
    have hoo'' : h''.get? o = some oo := (hs''.2 o (Ne.symm hdo)).trans hoo'
    refine wpAny_bind (wpAny_dictEpoch hoo'' hdo' ?_)
    rw [if_neg (by simp)]
    exact wpAny_pure ⟨h'', x + 1, rfl, hrest, hlt, by rw [htake, ← List.append_assoc]; exact hd'', hoo'', hs'.trans hs''⟩
  · rintro b s' ⟨h', i, rfl, hr, hi, hd', hoo', hs'⟩
    have hin : i = eso.size := by
      rcases Nat.lt_or_ge i eso.size with h | h
      · have e : eso.size - i = (eso.size - (i + 1)) + 1 := by omega
        rw [e, List.range'_succ] at hr; exact nomatch hr
      · exact Nat.le_antisymm hi h
    refine wpAny_pure (hQ h' ?_ hs')
    rw [hin, ← hlen, List.take_length] at hd'; exact hd'

theorem gather_short (f : (Option (Sem Value) × Sem Value) → (Option Addr × List (Sem Value × Sem Value)) → Sem (ForInStep (Option Addr × List (Sem Value × Sem Value)))) (mn : Option Addr)
    (hf : ∀ (p : Sem Value × Sem Value) (run : List (Sem Value × Sem Value)), run.length + 1 < 17 → f (some p.1, p.2) (mn, run) = pure (.yield (mn, run ++ [p]))) :
    ∀ (items run : List (Sem Value × Sem Value)) (rest : List (Option (Sem Value) × Sem Value)), run.length + items.length < 17 → forIn (items.map (fun p => (some p.1, p.2)) ++ rest) (mn, run) f = forIn rest (mn, run ++ items) f
  | [], run, rest, _ => by simp
  | p :: items, run, rest, h => by
    rw [List.map_cons, List.cons_append, List.forIn_cons, hf p run (by simp at h; omega), pure_bind]
    have := gather_short f mn hf items (run ++ [p]) rest (by simp at h ⊢; omega)
    simpa using this

theorem display_36 {ps1 ps2 ps3 : List (Sem Value × Sem Value)} {l1 l2 : Sem Value × Sem Value} {Q : Value → Shared → Prop} (h1 : ps1.length = 16) (h2 : ps2.length = 16) (h3 : ps3.length = 2)
    (h : wpAny (model prog w) A (subDict (ps1 ++ [l1])) (fun d1 s1 => wpAny (model prog w) A (subDict (ps2 ++ [l2])) (fun d2 s2 => wpAny (model prog w) A (mergeMapping d1 (.ref d2) false) (fun _ s3 =>
      wpAny (model prog w) A (subDict ps3) (fun d3 s4 => wpAny (model prog w) A (mergeMapping d1 (.ref d3) false) (fun _ s5 => Q (.ref d1) s5) (fun _ _ => False) s4) E s3) (fun _ _ => False) s2) E s1) E s) :
    wpAny (model prog w) A (dictDisplay ((ps1 ++ l1 :: (ps2 ++ l2 :: ps3)).map fun p => (some p.1, p.2))) Q E s := by
  unfold dictDisplay
  dsimp only
  rw [List.map_append, List.map_cons, List.map_append, List.map_cons]
  refine wpAny_bind ?_
  rw [gather_short _ none (fun p run hr => by
    have hne : ((run ++ [(p.1, p.2)]).length == 17) = false := by simp; omega
    simp only [hne, Bool.false_eq_true, if_false]) ps1 [] _ (by simp [h1])]
  rw [List.forIn_cons, List.nil_append]
  refine wpAny_bind ?_
  dsimp only
  rw [if_pos (by simp [h1])]
  refine wpAny_bind ?_
  rw [if_neg (by simp)]
  refine wpAny_bind (wpAny_mono h (fun d1 s1 h => ?_) fun _ _ e => e)
  refine wpAny_pure (wpAny_pure ?_)
  dsimp only
  rw [gather_short _ (some d1) (fun p run hr => by
    have hne : ((run ++ [(p.1, p.2)]).length == 17) = false := by simp; omega
    simp only [hne, Bool.false_eq_true, if_false]) ps2 [] _ (by simp [h2])]
  rw [List.forIn_cons, List.nil_append]
  refine wpAny_bind ?_
  dsimp only
  rw [if_pos (by simp [h2])]
  refine wpAny_bind ?_
  rw [if_neg (by simp)]
  refine wpAny_bind (wpAny_holding (wpAny_mono h (fun d2 s2 h => ?_) fun _ _ e => e))
  refine wpAny_bind (wpAny_onRaise (wpAny_holding (wpAny_mono h (fun _ s3 h => ?_) fun _ _ e => e.elim)))
  refine wpAny_pure (wpAny_pure ?_)
  dsimp only
  have hl3 : ps3.map (fun p => (some p.1, p.2)) = ps3.map (fun p => (some p.1, p.2)) ++ [] := by simp
  rw [hl3, gather_short _ (some d1) (fun p run hr => by
    have hne : ((run ++ [(p.1, p.2)]).length == 17) = false := by simp; omega
    simp only [hne, Bool.false_eq_true, if_false]) ps3 [] _ (by simp [h3])]
  rw [List.forIn_nil, List.nil_append]
  refine wpAny_pure ?_
  refine wpAny_bind ?_
  dsimp only
  rw [if_neg (by
    intro q
    rw [List.isEmpty_iff] at q
    rw [q] at h3
    cases h3)]
  refine wpAny_bind (wpAny_holding (wpAny_mono h (fun d3 s4 h => ?_) fun _ _ e => e))
  refine wpAny_bind (wpAny_onRaise (wpAny_holding (wpAny_mono h (fun _ s5 h => ?_) fun _ _ e => e.elim)))
  exact wpAny_pure (wpAny_pure h)
end
end Mine
end
section
open PySem PySem.W PyProof.Rows PySem.Calls
namespace Mine
section
variable {prog : Program} {w : World} {A : Around} {E : Value → Shared → Prop} {s : Shared}
theorem subDict_two {t1 v1 t2 v2 : Sem Value} {r1 r2 : Int × Int × Int × Int} {Q : Addr → Shared → Prop} (hk1 : KeyGives (model prog w) A t1 r1.1) (hv1 : TupGives (model prog w) A v1 r1.2) (hk2 : KeyGives (model prog w) A t2 r2.1) (hv2 : TupGives (model prog w) A v2 r2.2)
    (hn : r1.1 ≠ r2.1)
    (h : ∀ h' tk kvs, Stays s.heap h' → h'.DictOf (PySem.intKind prog w) s.heap.objs.size kvs → RowsAt s.heap h' s.heap.objs.size kvs [r1, r2] → Q s.heap.objs.size { s with heap := h', toks := tk }) :
    wpAny (model prog w) A (subDict [(t1, v1), (t2, v2)]) Q E s := by
  refine wpAny_subDict (knd := PySem.intKind prog w) (Nat.le_of_ble_eq_true rfl) ?_
  refine evalPairs_cons (hk1 _ _ _ fun u1 k1 => hv1 _ _ _ fun a1 a2 a3 k2 => evalPairs_cons (hk2 _ _ _ fun u2 k3 => hv2 _ _ _ fun b1 b2 b3 k4 => evalPairs_nil ?_))
  dsimp only
  have st0 : ∀ o, Stays s.heap (s.heap.push o) := fun o b x e => Heap.get?_push_of_some _ e
  have sz : ∀ (hh : Heap) (o : Obj), (hh.push o).objs.size = hh.objs.size + 1 := fun hh o => by simp [Heap.push]
  refine ⟨[(r1.1, .ref _), (r2.1, .ref _)], ⟨intKind_is _ _ _ _, rfl, intKind_is _ _ _ _, rfl, trivial⟩, ((Heap.DictOf.new s.heap).push _).push _, fun h' hd hs => ?_⟩
  have e : merged [] [(r1.1, Value.ref ((s.heap.push { cls := .type "dict", data := .dict #[] }).objs.size)), (r2.1, Value.ref (((s.heap.push { cls := .type "dict", data := .dict #[] }).push (tupObj r1.2 a1 a2 a3)).objs.size))] =
      [(r1.1, Value.ref ((s.heap.push { cls := .type "dict", data := .dict #[] }).objs.size)), (r2.1, Value.ref (((s.heap.push { cls := .type "dict", data := .dict #[] }).push (tupObj r1.2 a1 a2 a3)).objs.size))] :=
    merged_nil_of_nodup _ (by simp [hn])
  rw [e] at hd
  have n1 : (s.heap.push { cls := .type "dict", data := .dict #[] }).objs.size ≠ s.heap.objs.size := by rw [sz]; exact Nat.succ_ne_self _
  have n2 : ((s.heap.push { cls := .type "dict", data := .dict #[] }).push (tupObj r1.2 a1 a2 a3)).objs.size ≠ s.heap.objs.size := by rw [sz, sz]; omega
  have st1 : Stays s.heap (s.heap.push { cls := .type "dict", data := .dict #[] }) := st0 _
  have st2 : Stays s.heap ((s.heap.push { cls := .type "dict", data := .dict #[] }).push (tupObj r1.2 a1 a2 a3)) := fun b x q => Heap.get?_push_of_some _ (st1 b x q)
  refine h h' _ _ (stays_update (fun b x q => Heap.get?_push_of_some _ (st2 b x q)) (fresh_none fun _ _ q => q) hs) hd (.cons (t1 := a1) (t2 := a2) (t3 := a3) n1 (fresh_none st1) ?_ (.cons (t1 := b1) (t2 := b2) (t3 := b3) n2 (fresh_none st2) ?_ .nil))
  · exact (hs.2 _ n1).trans (Heap.get?_push_of_some _ (Heap.get?_push_size _ rfl))
  · exact (hs.2 _ n2).trans (Heap.get?_push_size _ rfl)

theorem PairsGive.split {M : Model} {A : Around} : ∀ {ps qs : List (Sem Value × Sem Value)} {rs : List (Int × Int × Int × Int)}, PairsGive M A (ps ++ qs) rs → ∃ rs1 rs2, rs = rs1 ++ rs2 ∧ PairsGive M A ps rs1 ∧ PairsGive M A qs rs2
  | [], _, rs, h => ⟨[], rs, rfl, .nil, h⟩
  | _ :: _, _, _, .cons a b r => by
    obtain ⟨rs1, rs2, e, x, y⟩ := PairsGive.split r
    exact ⟨_ :: rs1, rs2, by rw [e]; rfl, .cons a b x, y⟩
theorem PairsGive.length {M : Model} {A : Around} {ps : List (Sem Value × Sem Value)} {rs : List (Int × Int × Int × Int)} (h : PairsGive M A ps rs) : rs.length = ps.length := by
  induction h with
  | nil => rfl
  | cons _ _ _ ih => rw [List.length_cons, List.length_cons, ih]

theorem display_rows {ps1 ps2 ps3 : List (Sem Value × Sem Value)} {l1 l2 : Sem Value × Sem Value} {rs : List (Int × Int × Int × Int)} {Q : Value → Shared → Prop} (h1 : ps1.length = 16) (h2 : ps2.length = 16) (h3 : ps3.length = 2)
    (hps : PairsGive (model prog w) A (ps1 ++ l1 :: (ps2 ++ l2 :: ps3)) rs) (hn : (rs.map (·.1)).Nodup) (hsm : sysModules < s.heap.objs.size)
    (h : ∀ d h' tk kvs, Stays s.heap h' → s.heap.get? d = none → sysModules < d → h'.DictOf (PySem.intKind prog w) d kvs → RowsAt s.heap h' d kvs rs → Q (.ref d) { s with heap := h', toks := tk }) :
    wpAny (model prog w) A (dictDisplay ((ps1 ++ l1 :: (ps2 ++ l2 :: ps3)).map fun p => (some p.1, p.2))) Q E s := by
  have hlen := hps.length
  have e1 : ps1 ++ l1 :: (ps2 ++ l2 :: ps3) = (ps1 ++ [l1]) ++ ((ps2 ++ [l2]) ++ ps3) := by simp
  rw [e1] at hps
  obtain ⟨rs1, rs', rfl, g1, hps⟩ := hps.split
  obtain ⟨rs2, rs3, rfl, g2, g3⟩ := hps.split
  have k1 := g1.length
  have k2 := g2.length
  rw [List.length_append, List.length_singleton, h1] at k1
  rw [List.length_append, List.length_singleton, h2] at k2
  have hn1 : (rs1.map (·.1)).Nodup := by
    rw [List.map_append, List.nodup_append] at hn; exact hn.1
  have hn2 : ((rs1 ++ rs2).map (·.1)).Nodup := by
    rw [← List.append_assoc, List.map_append, List.nodup_append] at hn; exact hn.1
  have hn3 : (rs2.map (·.1)).Nodup := by
    rw [List.map_append, List.nodup_append] at hn2; exact hn2.2.1
  refine display_36 h1 h2 h3 ?_
  refine subDict_long g1 (by rw [List.length_append, List.length_singleton, h1]; decide) hn1 (by omega) fun ha ta kvs1 sa da ra => ?_
  refine subDict_long g2 (by rw [List.length_append, List.length_singleton, h2]; decide) hn3 (by omega) fun hb tb kvs2 sb db rb => ?_
  dsimp only at sb db rb ⊢
  have d1lt : s.heap.objs.size < ha.objs.size := by
    obtain ⟨o, es, ep, ho, _⟩ := da
    exact Heap.lt_size ho
  have ra' : RowsAt s.heap hb s.heap.objs.size kvs1 rs1 := ra.mono fun a p q _ => ⟨p, q, fun o e => sb a o e⟩
  have rb' : RowsAt s.heap hb s.heap.objs.size kvs2 rs2 := rb.mono fun a p q _ => ⟨fun e => (by
      obtain ⟨o, es, ep, ho, _⟩ := da
      rw [e, ho] at q; cases q), (by
      cases x : s.heap.get? a with
      | none => rfl
      | some o => rw [sa a o x] at q; cases q), fun o e => e⟩
  have da' := da.keep sb
  have kk1 := ra'.keys
  have kk2 := rb'.keys
  have kl1 := ra'.length
  have kl2 := rb'.length
  refine merge_new (Nat.ne_of_lt d1lt) (by simp only [beq_eq_false_iff_ne, ne_eq]; exact Nat.ne_of_gt (Nat.lt_trans hsm d1lt)) (by intro q; rw [q] at kl1; simp at kl1; omega) da' db (by rw [List.map_append, kk1, kk2, ← List.map_append]; exact hn2) (by rw [List.length_append]; omega) fun hc dc sc => ?_
  have stc : Stays s.heap hc := stays_update (fun b o e => sb b o (sa b o e)) (fresh_none fun _ _ q => q) sc
  have rc : RowsAt s.heap hc s.heap.objs.size (kvs1 ++ kvs2) (rs1 ++ rs2) := (ra'.append rb').mono fun a p q _ => ⟨p, q, fun o e => (sc.2 a p).trans e⟩
  have d1c : s.heap.objs.size < hc.objs.size := by
    obtain ⟨o, es, ep, ho, _⟩ := dc
    exact Heap.lt_size ho
  cases g3 with
  | nil => cases h3
  | @cons t v r ps rs hk hv g3 =>
    cases g3 with
    | nil => cases h3
    | @cons t' v' r' ps rs hk' hv' g3 =>
      cases g3 with
      | cons => simp at h3
      | nil =>
        refine subDict_two hk hv hk' hv' (by
          rw [← List.append_assoc, List.map_append, List.nodup_append] at hn
          have q := hn.2.1
          intro e
          simp [e] at q) fun hd td kvs3 sd dd rd => ?_
        dsimp only at sd dd rd ⊢
        have rd' : RowsAt s.heap hd s.heap.objs.size kvs3 [r, r'] := rd.mono fun a p q _ => ⟨fun e => (by
            obtain ⟨o, es, ep, ho, _⟩ := dc
            rw [e, ho] at q; cases q), (by
            cases x : s.heap.get? a with
            | none => rfl
            | some o => rw [stc a o x] at q; cases q), fun o e => e⟩
        have rc' : RowsAt s.heap hd s.heap.objs.size (kvs1 ++ kvs2) (rs1 ++ rs2) := rc.mono fun a p q _ => ⟨p, q, fun o e => sd a o e⟩
        have kk3 := rd'.keys
        have kl3 := rd'.length
        simp only [List.length_cons, List.length_nil] at kl3
        refine merge_new (Nat.ne_of_lt d1c) (by simp only [beq_eq_false_iff_ne, ne_eq]; exact Nat.ne_of_gt (Nat.lt_trans hsm d1c)) (by intro q; rw [List.append_eq_nil_iff] at q; rw [q.1] at kl1; simp at kl1; omega) (dc.keep sd) dd (by rw [List.map_append, rc'.keys, kk3, ← List.map_append, List.append_assoc]; exact hn) (by rw [List.length_append, List.length_append]; omega) fun he de se => ?_
        refine h _ he _ _ (stays_update (fun b o e => sd b o (stc b o e)) (fresh_none fun _ _ q => q) se) (fresh_none fun _ _ q => q) hsm de ?_
        rw [← List.append_assoc]
        exact (rc'.append rd').mono fun a p q _ => ⟨p, q, fun o e => (se.2 a p).trans e⟩
end
end Mine
end
section
open PySem PySem.W PyProof.Rows PySem.Calls
namespace Mine
def lawRows : List (Int × Int × Int × Int) := [(0, 1, 1, 1), (1, 14, 2, 0), (2, 16, 3, 0), (5, 23, 6, 0), (9, 33, 10, 0), (11, 9, 12, 0), (12, 10, 13, 0), (13, 12, 13, 0), (14, 15, 15, 1), (15, 36, 16, 0), (20, 43, 21, 0), (34, 32, 35, 0), (35, 33, 9, 0), (36, 37, 37, 1), (40, 68, 41, 0), (47, 77, 48, 0), (49, 79, 50, 0), (62, 61, 63, 0), (63, 61, 32, 0), (64, 65, 65, 1), (73, 72, 74, 0), (79, 77, 48, 0), (80, 80, 81, 1), (87, 86, 71, 0), (88, 88, 89, 1), (94, 93, 86, 0), (95, 95, 96, 1), (100, 99, 93, 0), (104, 103, 99, 0), (105, 105, 106, 1), (107, 109, 103, 0), (109, 111, 107, 0), (110, 110, 111, 1), (111, 112, 109, 0), (112, 112, 111, 1), (113, 113, 113, 0)]
structure RowIs (K : Frag) (k l mm e : Int) : Prop where
  ex : ∃ (xs : List Value) (n n' j : Nat) (a : Addr) (q : Value) (t1 t2 t3 : Tok), K.lookup 129 = some ⟨.type "tuple", none, .seq xs.toArray n, #[]⟩ ∧ seqIndex? k xs.length = some j ∧ xs[j]? = some (.ref a) ∧
    K.lookup a = some ⟨.type "tuple", none, .seq #[q, .int l t1, .int mm t2, .int e t3] n', #[]⟩ ∧ 0 ≤ k ∧ k < 1000
theorem rowIs_all (P : Params) : ∀ r ∈ lawRows, RowIs (hd.heap_39 P) r.1 r.2.1 r.2.2.1 r.2.2.2 := by
  unfold lawRows
  repeat (refine List.forall_mem_cons.mpr ⟨⟨_, _, _, _, _, _, _, _, _, rfl, rfl, rfl, rfl, by decide, by decide⟩, ?_⟩)
  exact List.forall_mem_nil _
theorem states_item {prog : Program} {w : World} {A : Around} {E : Value → Shared → Prop} {s : Shared} {h₀ : Heap} {L : Addr} {m : Str → Option Value} {K : Frag} {value slice : PySem.Expr} {k l mm e : Int} {u : Tok} {Q : Value → Shared → Prop}
    (F : Fr h₀ L s.heap m) (X : K.In h₀) (R : RowIs K k l mm e) (h : ∀ (a : Addr) (q : Value) (t1 t2 t3 : Tok), IsTup h₀ a (List.toArray [q, .int l t1, .int mm t2, .int e t3]) → Q (.ref a) s)
    (hs : subscripted slice false (.ref 129) (.int k u) = operate [.ref 129, .int k u] (getItem (.ref 129) (.int k u)) := by with_unfolding_all rfl) :
    wpAny (model prog w) A (subscriptTail value slice (.ref 129) (.int k u)) Q E s := by
  obtain ⟨xs, n, n', j, a, q, t1, t2, t3, h1, h2, h3, h4, h5, h6⟩ := R.ex
  exact topTup_K F X h1 (by omega) (by omega) h2 h3 (h a q t1 t2 t3 ⟨_, X _ _ h4, rfl, _, rfl⟩) hs
end Mine
end
section
open PySem PySem.W PyProof.Rows PySem.Calls
namespace Mine
abbrev TheProg : Program := PySem.Challenge.rw_nz0236_01.row.prog
local macro_rules | `(tactic| k_all) => `(tactic| assumption)
theorem mulok_fmod (a z : Int) : IntMulOk (z.fmod 2147483647) a := by
  have h := fdiv_fmod_facts z 2147483647
  exact IntMulOk.of_left (intBits_le_64 (by omega) (by omega))
local macro_rules | `(tactic| walk_at $s:str) => `(tactic| k_extra $s)
theorem take_says {w : World} {p : Program} {loose : List Str} {mean : ExcName → Option Value} {mg mb : Str → Option Value}
    {dp un : Nat} {gd : Option (List Code)} {cn : Str} {cs : Scope} {a : Addr} {ccd : Value} {cl : List (Str × Addr)} {outer : List Env} {A₀ : Around} {base h₀ : Heap} {L : Addr} {m : Str → Option Value}
    {news : List (Addr × Obj)} {s : Shared} {Q E : Value → Shared → Prop} {src : Addr} {d x top : Int} {td tx tt : Tok} {n : Nat}
    (B : Below A₀ base outer h₀) (F : Fr h₀ L s.heap m) (X : (hd.heap_39 w.params).In h₀) (N : News h₀ L s.heap ((src, listOf #[.int d td, .int x tx] n) :: news)) (T : Top p loose mean mg mb h₀)
    (hk : cs.kind = .function) (hne : ∀ p ∈ news, p.1 ≠ src) (h0 : 0 < top) (htt : top < 1000) (hdp : dp + 5 < recursionLimit) (hu : un + 100 < cLine)
    (ret : ∀ (v : Int) (t : Tok) (d' x' : Int) (td' tx' : Tok) (h' : Heap) (tk' : Nat), 0 ≤ v → v < top → Fr h₀ L h' m → News h₀ L h' ((src, listOf #[.int d' td', .int x' tx'] n) :: news) → Q (.int v t) { s with heap := h', toks := tk' }) :
    wpAny (model PySem.Challenge.rw_nz0236_01.row.prog w) (ktrTop dp un gd cn cs L a ccd cl outer) (call (.ref 179) [.ref src, .int top tt]) Q E s := by
  w_top off; k_with_none
  (k_with "binaryOp Mult int int" => (refine mul_int ?_ ?q9hm9; (case q9hm9 => exact mulok_fmod _ _)))
  revert X; k_fill; intro X
  refine wpAny_call ?_
  k_dflt ktr_enter
  k_steps
  all_goals exact ret _ _ _ _ _ _ _ _ ((fdiv_fmod_facts _ _).2.2.1 h0).1 ((fdiv_fmod_facts _ _).2.2.1 h0).2 (by assumption) (by assumption)
end Mine
end
section
open PySem PySem.W PyProof.Rows PySem.Calls
namespace Mine
open Builtin.Int (intBits)
theorem pool_start : intBits 0 ≤ ([] : List Int).length * 1048578 := by decide
theorem pool_same {pre : List Int} {n d : Int} (h : intBits d ≤ pre.length * 1048578) : intBits d ≤ (pre ++ [n]).length * 1048578 := by
  rw [List.length_append, List.length_singleton]; exact Nat.le_trans h (Nat.mul_le_mul_right _ (Nat.le_succ _))
theorem bits_neg1 {n : Int} {k : Nat} (h : intBits n ≤ k) : intBits (-1 - n) ≤ max 1 k + 1 := bits_sub (by decide) h
theorem pool_more {pre : List Int} {n d c : Int} (h : intBits d ≤ pre.length * 1048578) (hc : intBits c ≤ 1048577) : intBits (d * c + c) ≤ (pre ++ [n]).length * 1048578 := by
  have hb := bits_add (bits_mul h hc) hc
  refine Nat.le_trans hb ?_
  rw [List.length_append, List.length_singleton]; omega
theorem bits_of_item {ns : List Int} {n : Int} (hlay : PyData.layable0 (.list (ns.map .int)) = true) (hn : n ∈ ns) : intBits n ≤ 1048576 := PyData.bits_item_of_ints hlay hn
theorem bitsN {ns : List Int} {n : Int} (hlay : PyData.layable0 (.list (ns.map .int)) = true) (hn : n ∈ ns) : intBits (-1 - n) ≤ 1048577 := Nat.le_trans (bits_neg1 (bits_of_item hlay hn)) (by decide)
theorem bitsP {ns : List Int} {n : Int} (hlay : PyData.layable0 (.list (ns.map .int)) = true) (hn : n ∈ ns) : intBits n ≤ 1048577 := Nat.le_trans (bits_of_item hlay hn) (by decide)
theorem pool_mul {ns pre post : List Int} {n d c : Int} (h : intBits d ≤ pre.length * 1048578) (hl : ns.length ≤ 63) (e : ns = pre ++ n :: post) (hc : intBits c ≤ 1048577) : IntMulOk d c := by
  refine mulOk_of_bits h hc ?_
  rw [e, List.length_append, List.length_cons] at hl
  omega
local macro_rules | `(tactic| walk_at $s:str) => `(tactic| k_extra $s)
theorem of_allLt {d : Addr} : ∀ {l : List (Addr × Obj)}, AllLt d l → ∀ p ∈ l, p.1 < d
  | [], _, _, h => nomatch h
  | _ :: _, h, _, .head _ => h.1
  | _ :: _, h, p, .tail _ hp => of_allLt h.2 p hp
theorem news_drop2 {h₀ h : Heap} {L : Addr} {a b : Addr × Obj} {r : List (Addr × Obj)} (N : News h₀ L h (a :: b :: r)) : News h₀ L h (a :: r) := fun p hp => by
  rcases List.mem_cons.mp hp with e | hp
  · exact N p (e ▸ .head _)
  · exact N p (.tail _ (.tail _ hp))
theorem pool_says {w : World} {p : Program} {loose : List Str} {mean : ExcName → Option Value} {mg mb : Str → Option Value}
    {dp un : Nat} {gd : Option (List Code)} {cn : Str} {cs : Scope} {a : Addr} {ccd : Value} {cl : List (Str × Addr)} {outer : List Env} {A₀ : Around} {base h₀ : Heap} {L : Addr} {m : Str → Option Value}
    {news : List (Addr × Obj)} {s : Shared} {Q E : Value → Shared → Prop} {l : Addr} {vs : List Value} {ns : List Int}
    (B : Below A₀ base outer h₀) (F : Fr h₀ L s.heap m) (X : (hd.heap_39 w.params).In h₀) (N : News h₀ L s.heap news) (T : Top p loose mean mg mb h₀)
    (hk : cs.kind = .function) (hdp : dp + 5 < recursionLimit)
    (hl : base.IsList l vs.toArray) (hi : IntsAre vs ns) (hlen : ns.length ≤ 63) (hlay : PyData.layable0 (.list (ns.map .int)) = true)
    (ret : ∀ (q : Addr) (d x : Int) (td tx : Tok) (h' : Heap) (tk' : Nat), (∀ p ∈ news, p.1 < q) → Fr h₀ L h' m → News h₀ L h' ((q, listOf #[.int d td, .int x tx] 0) :: news) → Q (.ref q) { s with heap := h', toks := tk' }) :
    wpAny (model PySem.Challenge.rw_nz0236_01.row.prog w) (ktrTop dp un gd cn cs L a ccd cl outer) (call (.ref 172) [.ref l]) Q E s := by
  w_top off; k_with_none
  (k_with "binaryOp Mult int int" => first | (refine mul_int ?_ ?q9hm9; (case q9hm9 => exact pool_mul (by assumption) (by assumption) (by assumption) (bitsP (by assumption) (by assumption)))) | (refine mul_int ?_ ?q9hm9; (case q9hm9 => exact pool_mul (by assumption) (by assumption) (by assumption) (bitsN (by assumption) (by assumption)))))
  revert X; k_fill; intro X
  (k_with "pyIter ref" => k_state (fun pre d (_ : Int) => intBits d ≤ pre.length * 1048578) "digits" "mixed")
  (k_with "state" => first | exact pool_start | exact pool_same (by assumption) | exact pool_more (by assumption) (bitsP (by assumption) (by assumption)) | exact pool_more (by assumption) (bitsN (by assumption) (by assumption)))
  refine wpAny_call ?_
  k_dflt ktr_enter
  (rename Below _ _ _ _ => B9); k_lift B9
  k_steps
  all_goals (rename _ ∧ AllLt _ _ => hal)
  all_goals exact ret _ _ _ _ _ _ _ (of_allLt hal.2) (by assumption) (news_drop2 (by assumption))
end Mine
end
section
open PySem PySem.W PyProof.Rows PySem.Calls
namespace Mine
abbrev binsDict (h1 h2 : Int) (t1 t2 : Tok) (st se : Addr) : Obj := dictOf [⟨h1, .str (Str.ofString "states") t1, .ref st⟩, ⟨h2, .str (Str.ofString "senses") t2, .ref se⟩] 2
local macro_rules | `(tactic| k_all) => `(tactic| assumption)
local macro_rules | `(tactic| walk_at $s:str) => `(tactic| k_extra $s)
theorem more_says {w : World} {p : Program} {loose : List Str} {mean : ExcName → Option Value} {mg mb : Str → Option Value}
    {dp un : Nat} {gd : Option (List Code)} {cn : Str} {cs : Scope} {a : Addr} {ccd : Value} {cl : List (Str × Addr)} {outer : List Env} {A₀ : Around} {base h₀ : Heap} {L : Addr} {m : Str → Option Value}
    {news : List (Addr × Obj)} {s : Shared} {Q E : Value → Shared → Prop} {b bd st se : Addr} {h1 h2 : Int} {t1 t2 : Tok} {vs : List Value} {ns : List Int} {n : Nat} {k : Int} {tk : Tok} {l mm e : Int}
    (B : Below A₀ base outer h₀) (F : Fr h₀ L s.heap m) (X : (hd.heap_39 w.params).In h₀) (N : News h₀ L s.heap ((st, listOf vs.toArray n) :: (b, instObj 147 bd) :: (bd, binsDict h1 h2 t1 t2 st se) :: news)) (T : Top p loose mean mg mb h₀)
    (hk : cs.kind = .function) (hne : ∀ p ∈ ((b, instObj 147 bd) :: (bd, binsDict h1 h2 t1 t2 st se) :: news : List (Addr × Obj)), p.1 ≠ st) (hdp : dp + 5 < recursionLimit)
    (hi : IntsAre vs ns) (h0 : 0 ≤ k) (hlt : k < ns.length) (hsm : ns.length < 1000) (R : RowIs (hd.heap_39 w.params) (ns.getD k.toNat 0) l mm e)
    (ret : ∀ (vs' : List Value) (h' : Heap) (tk' : Nat), IntsAre vs' (ns.set k.toNat mm) → Fr h₀ L h' m → News h₀ L h' ((st, listOf vs'.toArray n) :: (b, instObj 147 bd) :: (bd, binsDict h1 h2 t1 t2 st se) :: news) → Q .none { s with heap := h', toks := tk' }) :
    wpAny (model PySem.Challenge.rw_nz0236_01.row.prog w) (ktrTop dp un gd cn cs L a ccd cl outer) (call (.ref 158) [.ref b, .int k tk]) Q E s := by
  w_top off; k_with_none
  (k_with "subscriptTail" => (k_here; (with_reducible show wpAny _ _ (subscriptTail _ _ (Value.ref 129) (Value.int _ _)) _ _ _); k_dflt (refine' states_item ?q9k1 ?q9k2 ?q9k3 ?_ ?q9k4; (case q9k1 => k_asm); (case q9k2 => k_asm); (case q9k3 => assumption); (case q9k4 => with_unfolding_all rfl)); intro _ _ _ _ _ _))
  (k_with "subscriptTail" => (k_here; (with_reducible show wpAny _ _ (subscriptTail _ _ (Value.ref _) (Value.int _ _)) _ _ _); k_dflt (refine' item_tupleT ?q9k1 ?q9k2 ?q9k3 ?q9k4 ?q9k5 ?_ ?q9k6; (case q9k1 => exact IsTup.keeps (by assumption) (Fr.keep (by k_asm))); (case q9k2 => decide); (case q9k3 => decide); (case q9k4 => rfl); (case q9k5 => rfl); (case q9k6 => with_unfolding_all rfl))))
  revert X; k_fill; intro X
  refine wpAny_call ?_
  k_dflt ktr_enter
  k_steps
  all_goals first | exact ret _ _ _ (by assumption) (by assumption) (by assumption)

theorem less_says {w : World} {p : Program} {loose : List Str} {mean : ExcName → Option Value} {mg mb : Str → Option Value}
    {dp un : Nat} {gd : Option (List Code)} {cn : Str} {cs : Scope} {a : Addr} {ccd : Value} {cl : List (Str × Addr)} {outer : List Env} {A₀ : Around} {base h₀ : Heap} {L : Addr} {m : Str → Option Value}
    {news : List (Addr × Obj)} {s : Shared} {Q E : Value → Shared → Prop} {b bd st se : Addr} {h1 h2 : Int} {t1 t2 : Tok} {vs us : List Value} {ns ms : List Int} {n n' : Nat} {k : Int} {tk : Tok} {l mm e : Int}
    (B : Below A₀ base outer h₀) (F : Fr h₀ L s.heap m) (X : (hd.heap_39 w.params).In h₀) (N : News h₀ L s.heap ((st, listOf vs.toArray n) :: (se, listOf us.toArray n') :: (b, instObj 147 bd) :: (bd, binsDict h1 h2 t1 t2 st se) :: news)) (T : Top p loose mean mg mb h₀)
    (hk : cs.kind = .function) (hne : ∀ p ∈ ((b, instObj 147 bd) :: (bd, binsDict h1 h2 t1 t2 st se) :: news : List (Addr × Obj)), p.1 ≠ st) (hne' : ∀ p ∈ ((b, instObj 147 bd) :: (bd, binsDict h1 h2 t1 t2 st se) :: news : List (Addr × Obj)), p.1 ≠ se) (hse : @Ne Nat st se) (hdp : dp + 5 < recursionLimit)
    (hi : IntsAre vs ns) (hi' : IntsAre us ms) (h0 : 0 ≤ k) (hlt : k < ns.length) (hsm : ns.length < 1000) (hlen : ms.length = ns.length) (R : RowIs (hd.heap_39 w.params) (ns.getD k.toNat 0) l mm e)
    (ret : ∀ (vs' us' : List Value) (h' : Heap) (tk' : Nat), IntsAre vs' (ns.set k.toNat l) → IntsAre us' (if e = 1 then ms.set k.toNat (1 - ms.getD k.toNat 0) else ms) → Fr h₀ L h' m →
      News h₀ L h' ((st, listOf vs'.toArray n) :: (se, listOf us'.toArray n') :: (b, instObj 147 bd) :: (bd, binsDict h1 h2 t1 t2 st se) :: news) → Q .none { s with heap := h', toks := tk' }) :
    wpAny (model PySem.Challenge.rw_nz0236_01.row.prog w) (ktrTop dp un gd cn cs L a ccd cl outer) (call (.ref 165) [.ref b, .int k tk]) Q E s := by
  w_top off; k_with_none
  (k_with "subscriptTail" => (k_here; (with_reducible show wpAny _ _ (subscriptTail _ _ (Value.ref 129) (Value.int _ _)) _ _ _); k_dflt (refine' states_item ?q9k1 ?q9k2 ?q9k3 ?_ ?q9k4; (case q9k1 => k_asm); (case q9k2 => k_asm); (case q9k3 => assumption); (case q9k4 => with_unfolding_all rfl)); intro _ _ _ _ _ _))
  (k_with "subscriptTail" => (k_here; (with_reducible show wpAny _ _ (subscriptTail _ _ (Value.ref _) (Value.int _ _)) _ _ _); k_dflt (refine' item_tupleT ?q9k1 ?q9k2 ?q9k3 ?q9k4 ?q9k5 ?_ ?q9k6; (case q9k1 => exact IsTup.keeps (by assumption) (Fr.keep (by k_asm))); (case q9k2 => decide); (case q9k3 => decide); (case q9k4 => rfl); (case q9k5 => rfl); (case q9k6 => with_unfolding_all rfl))))
  revert X; k_fill; intro X
  refine wpAny_call ?_
  k_dflt ktr_enter
  k_steps
  all_goals first | exact ret _ _ _ _ (by assumption) (by first | (rw [if_pos (by assumption)]; assumption) | (rw [if_neg (by assumption)]; assumption)) (by assumption) (by assumption)
end Mine
end
section
open PySem PySem.W PyProof.Rows PySem.Calls
namespace Mine
inductive RowsIn (N : List (Addr × Obj)) : List (Int × Value) → List (Int × Int × Int × Int) → Prop
  | nil : RowsIn N [] []
  | cons {a : Addr} {t1 t2 t3 : Tok} {r : Int × Int × Int × Int} {kvs : List (Int × Value)} {rs : List (Int × Int × Int × Int)} : (a, tupObj r.2 t1 t2 t3) ∈ N → RowsIn N kvs rs → RowsIn N ((r.1, .ref a) :: kvs) (r :: rs)
theorem RowsIn.mono {N N' : List (Addr × Obj)} {kvs : List (Int × Value)} {rs : List (Int × Int × Int × Int)} (x : RowsIn N kvs rs) (h : ∀ p ∈ N, p ∈ N') : RowsIn N' kvs rs := by
  induction x with
  | nil => exact .nil
  | cons a _ ih => exact .cons (h _ a) ih
theorem RowsIn.keys {N : List (Addr × Obj)} {kvs : List (Int × Value)} {rs : List (Int × Int × Int × Int)} (x : RowsIn N kvs rs) : kvs.map (·.1) = rs.map (·.1) := by
  induction x with
  | nil => rfl
  | cons _ _ ih => rw [List.map_cons, List.map_cons, ih]
theorem rowsIn_of {h0 h : Heap} {d : Addr} {kvs : List (Int × Value)} {rs : List (Int × Int × Int × Int)} (x : RowsAt h0 h d kvs rs) :
    ∃ tl : List (Addr × Obj), (∀ p ∈ tl, h.get? p.1 = some p.2 ∧ p.1 ≠ d ∧ h0.get? p.1 = none) ∧ RowsIn tl kvs rs := by
  induction x with
  | nil => exact ⟨[], fun _ h => (nomatch h), .nil⟩
  | @cons a t1 t2 t3 r kvs rs p q e _ ih =>
    obtain ⟨tl, h1, h2⟩ := ih
    refine ⟨(a, tupObj r.2 t1 t2 t3) :: tl, ?_, .cons (.head _) (h2.mono fun p hp => .tail _ hp)⟩
    intro p' hp
    rcases List.mem_cons.mp hp with rfl | hp
    · exact ⟨e, p, q⟩
    · exact h1 _ hp
section
variable {prog : Program} {w : World} {A : Around} {E : Value → Shared → Prop} {s : Shared}
theorem keyGives {env : Env} {k : Int} {n : Nat} {pos : Pos} : KeyGives (model prog w) A (eval (.Constant (.int k) n pos) env) k := fun _ _ _ h => wpAny_Constant_int (h _ _)
theorem tupGives {env : Env} {l mm e : Int} {n1 n2 n3 n4 : Nat} {p1 p2 p3 p4 p5 : Pos} :
    TupGives (model prog w) A (do let x ← eval (.Tuple [.Constant (.int l) n1 p1, .Constant (.int mm) n2 p2, .Constant (.int e) n3 p3] n4 p4) env; standAt p5; pure x) (l, mm, e) := fun E s Q h => by
  refine wpAny_bind (Tuple_ ?_)
  refine spliced_more (wpAny_Constant_int (spliced_more (wpAny_Constant_int (spliced_more (wpAny_Constant_int (spliced_none ?_))))))
  refine wpAny_newTuple ?_
  exact wpAny_bind (wpAny_standAt (wpAny_pure (h _ _ _ _)))
theorem cons_rows {env : Env} {k l mm e : Int} {n0 n1 n2 n3 n4 : Nat} {p0 p1 p2 p3 p4 pos : Pos} {ks : List (Option PySem.Expr)} {vs : List PySem.Expr} {rs : List (Int × Int × Int × Int)} (h : PairsGive (model prog w) A (pairTrees ks vs env pos) rs) :
    PairsGive (model prog w) A (pairTrees (some (.Constant (.int k) n0 p0) :: ks) (.Tuple [.Constant (.int l) n1 p1, .Constant (.int mm) n2 p2, .Constant (.int e) n3 p3] n4 p4 :: vs) env pos) ((k, l, mm, e) :: rs) :=
  .cons keyGives tupGives h
theorem nil_rows {env : Env} {pos : Pos} : PairsGive (model prog w) A (pairTrees [] [] env pos) [] := .nil
theorem split36 {α : Type} {P : List α} (h : P.length = 36) : ∃ ps1 l1 ps2 l2 ps3, P = ps1 ++ l1 :: (ps2 ++ l2 :: ps3) ∧ ps1.length = 16 ∧ ps2.length = 16 ∧ ps3.length = 2 := by
  refine ⟨P.take 16, P[16], (P.drop 17).take 16, P[33], P.drop 34, ?_, by simp; omega, by simp; omega, by simp; omega⟩
  have e1 : P = P.take 16 ++ P.drop 16 := (List.take_append_drop 16 P).symm
  have e2 : P.drop 16 = P[16] :: P.drop 17 := List.drop_eq_getElem_cons (by omega)
  have e3 : P.drop 17 = (P.drop 17).take 16 ++ P.drop 33 := by
    have := (List.take_append_drop 16 (P.drop 17)).symm
    rw [List.drop_drop] at this
    exact this
  have e4 : P.drop 33 = P[33] :: P.drop 34 := List.drop_eq_getElem_cons (by omega)
  rw [← e4, ← e3, ← e2, ← e1]
theorem dict36 {env : Env} {keys : List (Option PySem.Expr)} {values : List PySem.Expr} {pos : Pos} {L : Addr} {m : Str → Option Value} {h₀ : Heap} {news : List (Addr × Obj)} {rs : List (Int × Int × Int × Int)} {Q : Value → Shared → Prop}
    (F : Fr h₀ L s.heap m) (N : News h₀ L s.heap news) (hbig : h₀.NoLimit) (hps : PairsGive (model prog w) A (pairTrees keys values env pos) rs) (hall : keys.all (·.isSome) = true) (hl : keys.length = values.length) (hlen : keys.length = 36) (hn : (rs.map (·.1)).Nodup)
    (h : ∀ (d : Addr) (o : Obj) (tl : List (Addr × Obj)) (kvs : List (Int × Value)) (h' : Heap) (tk : Nat), Fr h₀ L h' m → News h₀ L h' ((d, o) :: (tl ++ news)) → o.IsDictOf (PySem.intKind prog w) kvs → (d == sysModules) = false → RowsIn tl kvs rs →
      (∀ p ∈ ((d, o) :: tl), ∀ q ∈ news, p.1 ≠ q.1) → Q (.ref d) { s with heap := h', toks := tk }) :
    wpAny (model prog w) A (eval (.Dict keys values pos) env) Q E s := by
  rw [arm_eval_Dict, zip_pairTrees keys values env pos hall hl]
  have hL := pairTrees_length keys values env pos hall hl
  obtain ⟨ps1, l1, ps2, l2, ps3, e, h1, h2, h3⟩ := split36 (P := pairTrees keys values env pos) (by rw [hL]; exact hlen)
  rw [e] at hps ⊢
  have hsm : sysModules < s.heap.objs.size := by
    have a := modules_low hbig
    have b := F.above
    have c := F.ns.lt
    exact Nat.lt_of_lt_of_le a (Nat.le_of_lt (Nat.lt_of_le_of_lt b c))
  refine wpAny_bind (wpAny_standAt (display_rows h1 h2 h3 hps hn hsm fun d h' tk kvs st hd0 hdm hd hr => ?_))
  obtain ⟨o, ho, hod⟩ := Heap.dictOf_iff.mp hd
  obtain ⟨tl, ht, hri⟩ := rowsIn_of hr
  obtain ⟨oL, esL, epL, hoL, _⟩ := F.ns
  have old : ∀ a, s.heap.get? a = none → a ≠ L ∧ h₀.get? a = none := fun a ha => ⟨fun q => (by rw [q, hoL] at ha; cases ha), (by
    cases q : h₀.get? a with
    | none => rfl
    | some x => rw [F.keep a x q] at ha; cases ha)⟩
  refine h d o tl kvs h' tk (Fr.keeps F st) ?_ hod (by simp only [beq_eq_false_iff_ne, ne_eq]; exact Nat.ne_of_gt hdm) hri ?_
  · intro p hp
    rcases List.mem_cons.mp hp with rfl | hp
    · exact ⟨ho, old _ hd0⟩
    · rcases List.mem_append.mp hp with hp | hp
      · exact ⟨(ht p hp).1, old _ (ht p hp).2.2⟩
      · exact ⟨st _ _ (N p hp).1, (N p hp).2⟩
  · intro p hp q hq e
    have hq1 := (N q hq).1
    rw [← e] at hq1
    rcases List.mem_cons.mp hp with rfl | hp
    · rw [hd0] at hq1; cases hq1
    · rw [(ht p hp).2.2] at hq1; cases hq1
end
local macro_rules | `(tactic| walk_at $s:str) => `(tactic| k_extra $s)
theorem rows_says {w : World} {p : Program} {loose : List Str} {mean : ExcName → Option Value} {mg mb : Str → Option Value}
    {dp un : Nat} {gd : Option (List Code)} {cn : Str} {cs : Scope} {a : Addr} {ccd : Value} {cl : List (Str × Addr)} {outer : List Env} {A₀ : Around} {base h₀ : Heap} {L : Addr} {m : Str → Option Value}
    {news : List (Addr × Obj)} {s : Shared} {Q E : Value → Shared → Prop}
    (B : Below A₀ base outer h₀) (F : Fr h₀ L s.heap m) (X : (hd.heap_39 w.params).In h₀) (N : News h₀ L s.heap news) (T : Top p loose mean mg mb h₀)
    (hk : cs.kind = .function) (hdp : dp + 5 < recursionLimit)
    (ret : ∀ (d : Addr) (o : Obj) (tl : List (Addr × Obj)) (kvs : List (Int × Value)) (h' : Heap) (tk : Nat), Fr h₀ L h' m → News h₀ L h' ((d, o) :: (tl ++ news)) → o.IsDictOf (PySem.intKind PySem.Challenge.rw_nz0236_01.row.prog w) kvs → (d == sysModules) = false → RowsIn tl kvs lawRows →
      (∀ p ∈ ((d, o) :: tl), ∀ q ∈ news, p.1 ≠ q.1) → Q (.ref d) { s with heap := h', toks := tk }) :
    wpAny (model PySem.Challenge.rw_nz0236_01.row.prog w) (ktrTop dp un gd cn cs L a ccd cl outer) (call (.ref 186) []) Q E s := by
  w_top off; k_with_none
  (k_with "eval Dict" => (k_here; k_dflt (refine' dict36 (rs := lawRows) ?q9F ?q9N ?q9b ?q9p ?q9a ?q9l ?q9e ?q9n ?_; (case q9F => k_asm); (case q9N => k_asm); (case q9b => exact Top.nolimit (by k_asm)); (case q9p => (unfold lawRows; (repeat refine cons_rows ?_); exact nil_rows)); (case q9a => rfl); (case q9l => rfl); (case q9e => rfl); (case q9n => decide)); intro _ _ _ _ _ _ _ _ _ _ _ _))
  revert X; k_fill; intro X
  refine wpAny_call ?_
  k_dflt ktr_enter
  k_steps
  all_goals first | exact ret _ _ _ _ _ _ (by assumption) (by assumption) (by assumption) (by assumption) (by assumption) (by assumption)
end Mine
end
section
open PySem PySem.W PyProof.Rows PySem.Calls
namespace Mine
def zipDat (ns ms : List Int) : List W.Dat := List.zipWith (fun a b => .list [.int a, .int b]) ns ms
theorem zipDat_take : ∀ (ns ms : List Int) (i : Nat), i < ns.length → ms.length = ns.length → zipDat (ns.take (i + 1)) (ms.take (i + 1)) = zipDat (ns.take i) (ms.take i) ++ [.list [.int (ns.getD i 0), .int (ms.getD i 0)]]
  | [], _, _, h, _ => absurd h (Nat.not_lt_zero _)
  | _ :: _, [], _, _, h => by simp at h
  | a :: r, b :: q, 0, _, _ => by simp [zipDat]
  | a :: r, b :: q, i + 1, h, e => by
    have := zipDat_take r q i (by simpa using h) (by simpa using e)
    simp only [List.take_succ_cons, zipDat, List.zipWith_cons_cons, List.cons_append, List.getD_cons_succ] at this ⊢
    rw [this]
section
variable {prog : Program} {w : World} {A : Around} {h₀ : Heap} {L : Addr} {m : Str → Option Value} {env : Env} {elt : PySem.Expr} {x : Str} {scope : Scope} {cl : List (Str × Addr)} {s : Shared} {Fin : List Value → List (Addr × Obj) → Prop} {news : List (Addr × Obj)}
theorem told_rest {n : Nat} {ns ms : List Int} (hn : ns.length = n) (hm : ms.length = ns.length)
    (turn : ∀ (i : Nat) t I oI C oC D m₂ ys nw h tk (E' : Value → Shared → Prop), i < n → LCg.NsObj oC m₂ → m₂ x = some (.int ((0 : Int) + (i : Int)) t) → Fr h₀ L h m → News h₀ L h ((I, oI) :: (C, oC) :: (D, LCg.lst ys) :: (news ++ nw)) → LCg.Off3 I C D (news ++ nw) → ((@Ne Nat I C) ∧ (@Ne Nat I D) ∧ (@Ne Nat C D)) →
      wpAny (model prog w) A (eval elt (compEnvC scope cl C env)) (LCg.CompEnd h₀ L m { s with heap := h, toks := tk } I oI C oC D (LCg.lst ys) (fun _ => True)
        (fun y news' => ∃ (q : Addr) (t1 t2 : Tok) (k : Nat), y = .ref q ∧ news' = news ++ ((q, listOf (List.toArray [.int (ns.getD ((0 : Int) + (i : Int)).toNat 0) t1, .int (ms.getD ((0 : Int) + (i : Int)).toNat 0) t2]) k) :: nw))) E' { s with heap := h, toks := tk })
    (fin : ∀ ys nw, W.DatAll nw ys (zipDat ns ms) → Fin ys (news ++ nw)) : LCg.CompRest prog w A h₀ L m env elt x scope cl s (fun _ => True) (fun i v => ∃ t, v = .int ((0 : Int) + (i : Int)) t) Fin n 0 [] news := by
  have key : ∀ (j i : Nat) (ys : List Value) (nw : List (Addr × Obj)), i + j = n → W.DatAll nw ys (zipDat (ns.take i) (ms.take i)) → LCg.CompRest prog w A h₀ L m env elt x scope cl s (fun _ => True) (fun i v => ∃ t, v = .int ((0 : Int) + (i : Int)) t) Fin j i ys (news ++ nw) := by
    intro j
    induction j with
    | zero =>
      intro i ys nw hi hy
      have e : i = ns.length := by omega
      subst e
      rw [List.take_length, ← hm, List.take_length] at hy
      exact LCg.CompRest.zero (fin ys nw hy)
    | succ j ih =>
      intro i ys nw hi hy
      refine LCg.CompRest.succ ?_
      rintro v I oI C oC D m₂ h tk E' ⟨t, rfl⟩ hC hx F N off ne
      refine wpAny_mono (turn i t I oI C oC D m₂ ys nw h tk E' (by omega) hC hx F N off ne) (fun y s₂ hq => ?_) fun _ _ e => e
      obtain ⟨h', tk', nw', e, F', N', off', hS, q, t1, t2, k, rfl, rfl⟩ := hq
      refine ⟨h', tk', _, e, F', N', off', hS, ?_⟩
      refine ih (i + 1) _ _ (by omega) ?_
      rw [zipDat_take ns ms i (by omega) hm]
      have ei : ((0 : Int) + (i : Int)).toNat = i := by omega
      rw [ei]
      exact (hy.mono fun p hp => .tail _ hp).append (.one (.list (.head _) (.cons (.int _ _) (.cons (.int _ _) .nil))))
  have := key n 0 [] [] (by omega) (by simp only [List.take_zero, zipDat, List.zipWith_nil_left]; exact .nil)
  rwa [List.append_nil] at this
end

theorem told_end {h₀ h' : Heap} {L I C D q : Addr} {m : Str → Option Value} {s₁ : Shared} {oI oC oD o : Obj} {rest : Value → List (Addr × Obj) → Prop} {y : Value} {tk : Nat} {news nw : List (Addr × Obj)} {R : Prop}
    (F : Fr h₀ L h' m) (N : News h₀ L h' ((q, o) :: (I, oI) :: (C, oC) :: (D, oD) :: (news ++ nw))) (off : LCg.Off3 I C D (news ++ nw)) (l1 : @LT.lt Nat _ I q ∧ @LT.lt Nat _ C q ∧ @LT.lt Nat _ D q ∧ R) (r : rest y (news ++ ((q, o) :: nw))) :
    LCg.CompEnd h₀ L m s₁ I oI C oC D oD (fun _ => True) rest y { s₁ with heap := h', toks := tk } := by
  refine LCg.CompEnd.intro F N _ (fun p hp => ?_) (LCg.Off3.of fun p hp => ?_) trivial r
  · rcases List.mem_cons.mp hp with rfl | hp
    · exact .tail _ (.head _)
    rcases List.mem_cons.mp hp with rfl | hp
    · exact .tail _ (.tail _ (.head _))
    rcases List.mem_cons.mp hp with rfl | hp
    · exact .tail _ (.tail _ (.tail _ (.head _)))
    rcases List.mem_append.mp hp with hp | hp
    · exact .tail _ (.tail _ (.tail _ (.tail _ (List.mem_append_left _ hp))))
    rcases List.mem_cons.mp hp with rfl | hp
    · exact .head _
    · exact .tail _ (.tail _ (.tail _ (.tail _ (List.mem_append_right _ hp))))
  · rcases List.mem_append.mp hp with hp | hp
    · exact off.mem p (List.mem_append_left _ hp)
    rcases List.mem_cons.mp hp with rfl | hp
    · exact ⟨Nat.ne_of_gt l1.1, Nat.ne_of_gt l1.2.1, Nat.ne_of_gt l1.2.2.1⟩
    · exact off.mem p (List.mem_append_right _ hp)
theorem told_out {h₀ h' : Heap} {L : Addr} {a b c d e f : Addr × Obj} {news nw : List (Addr × Obj)} (N : News h₀ L h' (a :: (b :: c :: d :: e :: f :: news ++ nw))) : News h₀ L h' (a :: c :: d :: e :: f :: (news ++ nw)) := fun p hp => by
  rcases List.mem_cons.mp hp with rfl | hp
  · exact N _ (.head _)
  · exact N _ (.tail _ (.tail _ hp))
local macro_rules | `(tactic| k_all) => `(tactic| assumption)
theorem small_len {k : Nat} (h : k < 1000) : Builtin.Range.small 0 (k : Int) 1 = true := small_one (by omega) (by omega) (by omega) (by omega)
theorem size_len {k : Nat} (h : k < 1000) : ((k : Int) - 0).toNat ≤ sizeLine := by rw [sizeLine_eq]; omega
theorem toNat_len {k j : Nat} (h : k = j) : j = ((k : Int) - 0).toNat := by omega
local macro_rules | `(tactic| walk_at $s:str) => `(tactic| k_extra $s)
theorem told_says {w : World} {p : Program} {loose : List Str} {mean : ExcName → Option Value} {mg mb : Str → Option Value}
    {dp un : Nat} {gd : Option (List Code)} {cn : Str} {cs : Scope} {a : Addr} {ccd : Value} {cl : List (Str × Addr)} {outer : List Env} {A₀ : Around} {base h₀ : Heap} {L : Addr} {m : Str → Option Value}
    {news : List (Addr × Obj)} {s : Shared} {Q E : Value → Shared → Prop} {b bd st se : Addr} {h1 h2 : Int} {t1 t2 : Tok} {vs us : List Value} {ns ms : List Int} {n n' : Nat}
    (B : Below A₀ base outer h₀) (F : Fr h₀ L s.heap m) (X : (hd.heap_39 w.params).In h₀) (N : News h₀ L s.heap ((st, listOf vs.toArray n) :: (se, listOf us.toArray n') :: (b, instObj 147 bd) :: (bd, binsDict h1 h2 t1 t2 st se) :: news)) (T : Top p loose mean mg mb h₀)
    (hk : cs.kind = .function) (hdp : dp + 5 < recursionLimit)
    (hi : IntsAre vs ns) (hi' : IntsAre us ms) (hsm : ns.length < 1000) (hlen : ms.length = ns.length)
    (ret : ∀ (q : Addr) (ys : List Value) (nw : List (Addr × Obj)) (k : Nat) (h' : Heap) (tk' : Nat), W.DatAll nw ys (zipDat ns ms) → Fr h₀ L h' m →
      News h₀ L h' ((q, listOf ys.toArray k) :: (st, listOf vs.toArray n) :: (se, listOf us.toArray n') :: (b, instObj 147 bd) :: (bd, binsDict h1 h2 t1 t2 st se) :: (news ++ nw)) → Q (.ref q) { s with heap := h', toks := tk' }) :
    wpAny (model PySem.Challenge.rw_nz0236_01.row.prog w) (ktrTop dp un gd cn cs L a ccd cl outer) (call (.ref 198) [.ref b]) Q E s := by
  w_top off; k_with_none
  (k_with "CompSrc" => (k_here; k_dflt (refine' LCg.CompSrc.range ?q9kh ?q9kF ?q9kN ?q9kR ?q9ks ?q9kz ?q9kl ?_; (case q9kh => rfl); (case q9kF => k_asm); (case q9kN => k_asm); (case q9kR => assumption); (case q9ks => exact small_len (by assumption)); (case q9kz => exact rangeSize_nat _ _); (case q9kl => exact size_len (by assumption))); intro _; refine told_rest (toNat_len rfl) (by assumption) ?_ ?_))
  revert X; k_fill; intro X
  refine wpAny_call ?_
  k_dflt (refine' code_defC ?k1 ?k2 ?k3 ?k4 ?k5 ?kA ?kF ?kK ?k6 ?k7 ?k8 ?k9 ?kB ?kD ?_ ?c2 ?c3 ?c4; (case kA => exact rfl); (case kF => exact rfl); (case kK => assumption); (case k1 => k_asm); (case k2 => k_asm); (case k3 => k_asm); (case k4 => k_asm); (case k5 => k_asm); (case k6 => k_is); (case k7 => k_is); (case k8 => ktr_room); (case k9 => exact BindsTo.of_eq rfl); (case kB => exact rfl); (case kD => decide +kernel); (case c2 => exact rfl); (case c3 => exact rfl); (case c4 => exact rfl); k_whole; intro g' L' h' tk' cells' FG' F' N' Y' B' X' T' l1; (try k_lt l1); k_cells Y'; (try simp only [List.cons_append, List.nil_append] at N'); (try dsimp only); (try k_fold))
  k_steps
  · exact told_end (by assumption) (by assumption) (by assumption) (by assumption) ⟨_, _, _, _, rfl, rfl⟩
  · exact ret _ _ _ _ _ _ (by assumption) (by assumption) (told_out (by assumption))
end Mine
end
section
open PySem PySem.W PyProof.Rows PySem.Calls
namespace Mine
theorem flat_ints {vs : List Value} {k : Nat} {x : Int} (h : IntsAre vs (List.replicate k [x]).flatten) : IntsAre vs (List.replicate k x) := by
  have e : ∀ k : Nat, (List.replicate k [x]).flatten = List.replicate k x := by
    intro k
    induction k with
    | zero => rfl
    | succ k ih => rw [List.replicate_succ, List.replicate_succ, List.flatten_cons, ih]; rfl
  rwa [e] at h
theorem bins_news {h₀ h' : Heap} {L : Addr} {a b c d e f : Addr × Obj} {news : List (Addr × Obj)} (N : News h₀ L h' (a :: b :: c :: d :: e :: f :: news)) : News h₀ L h' (c :: a :: e :: f :: news) := fun p hp => by
  refine N p ?_
  simp only [List.mem_cons] at hp ⊢
  rcases hp with h | h | h | h | h <;> simp [h]
theorem bins_says {w : World} {p : Program} {loose : List Str} {mean : ExcName → Option Value} {mg mb : Str → Option Value}
    {dp un : Nat} {gd : Option (List Code)} {cn : Str} {cs : Scope} {a : Addr} {ccd : Value} {cl : List (Str × Addr)} {outer : List Env} {A₀ : Around} {base h₀ : Heap} {L : Addr} {m : Str → Option Value}
    {news : List (Addr × Obj)} {s : Shared} {Q E : Value → Shared → Prop} {many : Int} {tm : Tok}
    (B : Below A₀ base outer h₀) (F : Fr h₀ L s.heap m) (X : (hd.heap_39 w.params).In h₀) (N : News h₀ L s.heap news) (T : Top p loose mean mg mb h₀)
    (hk : cs.kind = .function) (hdp : dp + 5 < recursionLimit) (hm0 : 0 ≤ many) (hm1 : many < 100)
    (ret : ∀ (b bd st se : Addr) (h1 h2 : Int) (t1 t2 : Tok) (vs us : List Value) (n n' : Nat) (h' : Heap) (tk' : Nat), IntsAre vs (List.replicate many.toNat 0) → IntsAre us (List.replicate many.toNat 0) → AllLt bd news → @LT.lt Nat _ bd b → @LT.lt Nat _ b st → @LT.lt Nat _ st se → Fr h₀ L h' m →
      News h₀ L h' ((st, listOf vs.toArray n) :: (se, listOf us.toArray n') :: (b, instObj 147 bd) :: (bd, binsDict h1 h2 t1 t2 st se) :: news) → Q (.ref b) { s with heap := h', toks := tk' }) :
    wpAny (model PySem.Challenge.rw_nz0236_01.row.prog w) (ktrTop dp un gd cn cs L a ccd cl outer) (call (.ref 147) [.int many tm]) Q E s := by
  w_top off; k_with_none; revert X; k_fill; intro X
  k_dflt (refine' call_cls ?k1 ?k2 ?k3 ?k4 ?k5 ?k6 ?_; (case k1 => k_asm); (case k2 => k_asm); (case k3 => k_asm); (case k4 => k_is); (case k5 => k_is); (case k6 => k_is); k_whole)
  intro x' d' h' F' N' l1 l2
  replace l1 := allLt_of l1
  k_lt2 l2
  k_sweep
  k_dflt (refine' code_def ?k1 ?k2 ?k3 ?k4 ?k5 ?kA ?kF ?kK ?k6 ?k7 ?k8 ?k9 ?kB ?_ ?c2 ?c3 ?c4 ?c5; (case kA => exact rfl); (case kF => exact rfl); (case kK => assumption); (case k1 => k_asm); (case k2 => k_asm); (case k3 => k_asm); (case k4 => k_asm); (case k5 => k_asm); (case k6 => k_is); (case k7 => k_is); (case k8 => ktr_room); (case k9 => first | exact BindsTo.of_eq rfl | exact binds_K (by k_in) rfl (by k_is) rfl rfl rfl); (case c5 => decide); (case kB => exact locs rfl); (case c2 => exact rfl); (case c3 => exact rfl); (case c4 => exact rfl); k_whole)
  intro g' L' h' FG' F' N' B' X' T'
  (try dsimp only)
  (try k_fold)
  k_steps
  refine ret _ _ _ _ _ _ _ _ _ _ _ _ _ _ ?i1 ?i2 l1 l2 ?o1 ?o2 (by assumption) (bins_news (by assumption))
  case i1 => exact flat_ints (by assumption)
  case i2 => exact flat_ints (by assumption)
  case o1 => omega
  case o2 => omega
end Mine
end
section
open PySem PySem.W PyProof.Rows PySem.Calls
namespace Mine
theorem bins2_says {w : World} {p : Program} {loose : List Str} {mean : ExcName → Option Value} {mg mb : Str → Option Value}
    {dp un : Nat} {gd : Option (List Code)} {cn : Str} {cs : Scope} {a : Addr} {ccd : Value} {cl : List (Str × Addr)} {outer : List Env} {A₀ : Around} {base h₀ : Heap} {L : Addr} {m : Str → Option Value}
    {news : List (Addr × Obj)} {s : Shared} {Q E : Value → Shared → Prop} {many z : Int} {tm tz : Tok}
    (B : Below A₀ base outer h₀) (F : Fr h₀ L s.heap m) (X : (hd.heap_39 w.params).In h₀) (N : News h₀ L s.heap news) (T : Top p loose mean mg mb h₀)
    (hk : cs.kind = .function) (hdp : dp + 5 < recursionLimit) (hm0 : 0 ≤ many) (hm1 : many < 100)
    (ret : ∀ (b bd st se : Addr) (h1 h2 : Int) (t1 t2 : Tok) (vs us : List Value) (n n' : Nat) (h' : Heap) (tk' : Nat), IntsAre vs (List.replicate many.toNat z) → IntsAre us (List.replicate many.toNat 0) → AllLt bd news → @LT.lt Nat _ bd b → @LT.lt Nat _ b st → @LT.lt Nat _ st se → Fr h₀ L h' m →
      News h₀ L h' ((st, listOf vs.toArray n) :: (se, listOf us.toArray n') :: (b, instObj 147 bd) :: (bd, binsDict h1 h2 t1 t2 st se) :: news) → Q (.ref b) { s with heap := h', toks := tk' }) :
    wpAny (model PySem.Challenge.rw_nz0236_01.row.prog w) (ktrTop dp un gd cn cs L a ccd cl outer) (call (.ref 147) [.int many tm, .int z tz]) Q E s := by
  w_top off; k_with_none; revert X; k_fill; intro X
  k_dflt (refine' call_cls ?k1 ?k2 ?k3 ?k4 ?k5 ?k6 ?_; (case k1 => k_asm); (case k2 => k_asm); (case k3 => k_asm); (case k4 => k_is); (case k5 => k_is); (case k6 => k_is); k_whole)
  intro x' d' h' F' N' l1 l2
  replace l1 := allLt_of l1
  k_lt2 l2
  k_sweep
  k_dflt (refine' code_def ?k1 ?k2 ?k3 ?k4 ?k5 ?kA ?kF ?kK ?k6 ?k7 ?k8 ?k9 ?kB ?_ ?c2 ?c3 ?c4 ?c5; (case kA => exact rfl); (case kF => exact rfl); (case kK => assumption); (case k1 => k_asm); (case k2 => k_asm); (case k3 => k_asm); (case k4 => k_asm); (case k5 => k_asm); (case k6 => k_is); (case k7 => k_is); (case k8 => ktr_room); (case k9 => first | exact BindsTo.of_eq rfl | exact binds_K (by k_in) rfl (by k_is) rfl rfl rfl); (case c5 => decide); (case kB => exact locs rfl); (case c2 => exact rfl); (case c3 => exact rfl); (case c4 => exact rfl); k_whole)
  intro g' L' h' FG' F' N' B' X' T'
  (try dsimp only)
  (try k_fold)
  k_steps
  refine ret _ _ _ _ _ _ _ _ _ _ _ _ _ _ ?i1 ?i2 l1 l2 ?o1 ?o2 (by assumption) (bins_news (by assumption))
  case i1 => exact flat_ints (by assumption)
  case i2 => exact flat_ints (by assumption)
  case o1 => omega
  case o2 => omega
end Mine
end
section
open PySem PySem.W PyProof.Rows PySem.Calls
namespace Mine
/-- one row of due: its list's address, the state, the sense -/
structure Ent where
  q : Addr
  a : Int
  b : Int
  t1 : Tok
  t2 : Tok
  k : Nat
abbrev entObj (e : Ent) : Obj := listOf (List.toArray [Value.int e.a e.t1, Value.int e.b e.t2]) e.k
def inner (es : List Ent) : List (Addr × Obj) := es.map fun e => (e.q, entObj e)
def refs (es : List Ent) : List Value := es.map fun e => Value.ref e.q
def eA (es : List Ent) : List Int := es.map (·.a)
def eB (es : List Ent) : List Int := es.map (·.b)
def eQ (es : List Ent) : List Addr := es.map (·.q)

theorem dat_all {es : List Ent} {news : List (Addr × Obj)} (h : ∀ p ∈ inner es, p ∈ news) : W.DatAll news (refs es) (zipDat (eA es) (eB es)) := by
  induction es with
  | nil => exact .nil
  | cons e es ih =>
    refine .cons (.list (h _ (.head _)) (.cons (.int _ _) (.cons (.int _ _) .nil))) (ih fun p hp => h p (.tail _ hp))
theorem dat_ok : ∀ (ns ms : List Int), ∀ d ∈ zipDat ns ms, kqdOk 8 d = true
  | [], _, d, h => by simp [zipDat] at h
  | _ :: _, [], d, h => by simp [zipDat] at h
  | a :: r, b :: q, d, h => by
    rcases List.mem_cons.mp h with rfl | h
    · rfl
    · exact dat_ok r q d h

/-- the addresses that are written to are apart -/
structure Sy (src st se b bd due rd : Addr) (tl : List (Addr × Obj)) (qs : List Addr) : Prop where
  nd : (src :: st :: se :: due :: qs).Nodup
  off : ∀ a ∈ (src :: st :: se :: due :: qs : List Addr), b ≠ a ∧ bd ≠ a ∧ rd ≠ a ∧ ∀ p ∈ tl, p.1 ≠ a

abbrev led (src st se b bd due rd : Addr) (so o1 o2 o3 o4 o5 o6 : Obj) (es : List Ent) (tl : List (Addr × Obj)) : List (Addr × Obj) :=
  (src, so) :: (st, o1) :: (se, o2) :: (b, o3) :: (bd, o4) :: (due, o5) :: (rd, o6) :: (inner es ++ tl)
def Hold (p : Prop) : Prop := p
theorem Hold.out {p : Prop} (h : Hold p) : p := h
theorem news_swap {h₀ h : Heap} {L : Addr} {p q : Addr × Obj} {r : List (Addr × Obj)} (N : News h₀ L h (p :: q :: r)) : News h₀ L h (q :: p :: r) := fun x hx => by
  rcases List.mem_cons.mp hx with rfl | hx
  · exact N _ (.tail _ (.head _))
  rcases List.mem_cons.mp hx with rfl | hx
  · exact N _ (.head _)
  · exact N _ (.tail _ (.tail _ hx))
theorem inner_q {es : List Ent} {p : Addr × Obj} (h : p ∈ inner es) : p.1 ∈ eQ es := by
  obtain ⟨e, he, rfl⟩ := List.mem_map.mp h
  exact List.mem_map.mpr ⟨e, he, rfl⟩
section
variable {src st se b bd due rd : Addr} {so o1 o2 o3 o4 o5 o6 : Obj} {es : List Ent} {tl : List (Addr × Obj)}
theorem Sy.offSrc (S : Sy src st se b bd due rd tl (eQ es)) : ∀ p ∈ (((st, o1) :: (se, o2) :: (b, o3) :: (bd, o4) :: (due, o5) :: (rd, o6) :: (inner es ++ tl)) : List (Addr × Obj)), p.1 ≠ src := by
  obtain ⟨nd, off⟩ := S
  obtain ⟨h1, h2, h3, h4⟩ := off src (.head _)
  simp only [List.nodup_cons, List.mem_cons, not_or] at nd
  intro p hp e
  simp only [List.mem_cons, List.mem_append] at hp
  rcases hp with rfl | rfl | rfl | rfl | rfl | rfl | hp | hp
  · exact nd.1.1 e.symm
  · exact nd.1.2.1 e.symm
  · exact h1 e
  · exact h2 e
  · exact nd.1.2.2.1 e.symm
  · exact h3 e
  · exact nd.1.2.2.2 (e ▸ inner_q hp)
  · exact h4 p hp e
theorem Sy.offSt (S : Sy src st se b bd due rd tl (eQ es)) : ∀ p ∈ (((src, so) :: (se, o2) :: (b, o3) :: (bd, o4) :: (due, o5) :: (rd, o6) :: (inner es ++ tl)) : List (Addr × Obj)), p.1 ≠ st := by
  obtain ⟨nd, off⟩ := S
  obtain ⟨h1, h2, h3, h4⟩ := off st (.tail _ (.head _))
  simp only [List.nodup_cons, List.mem_cons, not_or] at nd
  intro p hp e
  simp only [List.mem_cons, List.mem_append] at hp
  rcases hp with rfl | rfl | rfl | rfl | rfl | rfl | hp | hp
  · exact nd.1.1 e
  · exact nd.2.1.1 e.symm
  · exact h1 e
  · exact h2 e
  · exact nd.2.1.2.1 e.symm
  · exact h3 e
  · exact nd.2.1.2.2 (e ▸ inner_q hp)
  · exact h4 p hp e
theorem Sy.offSe (S : Sy src st se b bd due rd tl (eQ es)) : ∀ p ∈ (((src, so) :: (st, o1) :: (b, o3) :: (bd, o4) :: (due, o5) :: (rd, o6) :: (inner es ++ tl)) : List (Addr × Obj)), p.1 ≠ se := by
  obtain ⟨nd, off⟩ := S
  obtain ⟨h1, h2, h3, h4⟩ := off se (.tail _ (.tail _ (.head _)))
  simp only [List.nodup_cons, List.mem_cons, not_or] at nd
  intro p hp e
  simp only [List.mem_cons, List.mem_append] at hp
  rcases hp with rfl | rfl | rfl | rfl | rfl | rfl | hp | hp
  · exact nd.1.2.1 e
  · exact nd.2.1.1 e
  · exact h1 e
  · exact h2 e
  · exact nd.2.2.1.1 e.symm
  · exact h3 e
  · exact nd.2.2.1.2 (e ▸ inner_q hp)
  · exact h4 p hp e
theorem Sy.offDue (S : Sy src st se b bd due rd tl (eQ es)) : ∀ p ∈ (((src, so) :: (st, o1) :: (se, o2) :: (b, o3) :: (bd, o4) :: (rd, o6) :: (inner es ++ tl)) : List (Addr × Obj)), p.1 ≠ due := by
  obtain ⟨nd, off⟩ := S
  obtain ⟨h1, h2, h3, h4⟩ := off due (.tail _ (.tail _ (.tail _ (.head _))))
  simp only [List.nodup_cons, List.mem_cons, not_or] at nd
  intro p hp e
  simp only [List.mem_cons, List.mem_append] at hp
  rcases hp with rfl | rfl | rfl | rfl | rfl | rfl | hp | hp
  · exact nd.1.2.2.1 e
  · exact nd.2.1.2.1 e
  · exact nd.2.2.1.1 e
  · exact h1 e
  · exact h2 e
  · exact h3 e
  · exact nd.2.2.2.1 (e ▸ inner_q hp)
  · exact h4 p hp e
end
section
variable {prog : Program} {w : World} {A : Around} {E : Value → Shared → Prop} {s : Shared} {env : Env} {h₀ : Heap} {x : Str} {body : List Stmt} {Q : Flow → Shared → Prop}
theorem my_range {L r : Addr} {b₀ : Int} {t₀ u₀ v₀ : Tok} {n : Nat} {m₀ : Str → Option Value} {news : List (Addr × Obj)} (stored : List Str) (nx₀ : List (Addr × Obj)) (I : Nat → List (Addr × Obj) → Prop)
    (hh : A.handled = none) (hL : env.locals = L) (hr : IsRange s.heap r 0 b₀ 1 t₀ u₀ v₀) (hsmall : Builtin.Range.small 0 b₀ 1 = true) (hsz : Builtin.Range.rangeSize 0 b₀ 1 = (n : Int)) (F : Fr h₀ L s.heap m₀) (N : News h₀ L s.heap news) (hn : ∀ p ∈ nx₀, p ∈ news) (hj : I 0 nx₀)
    (turn : ∀ (i : Nat) nx t (u : Str → Option Value) h tk own, i < n → OwnOff own (nx.map (·.1)) → I i nx → Fr h₀ L h (fun y => if y = x then some (.int (i : Int) t) else if stored.contains y then u y else m₀ y) → News h₀ L h (nx ++ own) →
      wpAny (model prog w) A (execs body env) (InvPostG h₀ L (fun m' nx' => I (i + 1) nx' ∧ ∀ z, z ≠ x → stored.contains z = false → m' z = m₀ z) own { s with heap := h, toks := tk } Q) E { s with heap := h, toks := tk })
    (done : ∀ nx (u : Str → Option Value) h tk, I n nx → Fr h₀ L h (fun y => if y = x then u y else if stored.contains y then u y else m₀ y) → News h₀ L h nx → Q .next { s with heap := h, toks := tk }) :
    wpAny (model prog w) A (pyIter (.ref r)) (fun it s₂ => LoopAtV prog w A h₀ env x body Q E it s₂) E s := by
  subst hL
  refine wpAny_pyIter_range hr hsmall ?_
  have W : Walks prog w A s.heap.objs.size [s.heap.objs.size] [s.heap.objs.size] n (fun i v => i < n ∧ ∃ t, v = .int (0 + (i : Int) * 1) t)
      (fun i h => IsRangeIter h s.heap.objs.size (0 + (i : Nat) * 1) ((n : Int) - (i : Nat)) 1) := (Walks.range hh _ 0 1 n).bound
  refine kdr_loop (news := nx₀) (fun i m nx => I i nx ∧ ∀ z, z ≠ x → stored.contains z = false → m z = m₀ z) W (fun _ h => h) (fun _ h => h) ?_ ?_ ?_ ?_ (by show IsRangeIter _ _ _ _ _; rw [hsz]; simpa using Heap.get?_push_size _ rfl) (F.push _) (fun p hp => ⟨Heap.get?_push_of_some _ (N p (hn p hp)).1, (N p (hn p hp)).2⟩) ⟨hj, fun _ _ _ => rfl⟩ ?_ ?_
  · intro i h hi b hb
    rw [List.mem_singleton.mp hb]
    exact ⟨_, hi⟩
  · intro hm
    exact absurd F.ns.lt ((List.mem_singleton.mp hm) ▸ Nat.lt_irrefl _)
  · intro b hb
    rw [List.mem_singleton.mp hb]
    exact next_is_new F
  · intro p hp hI
    exact absurd (Heap.lt_size (N p (hn p hp)).1) ((List.mem_singleton.mp hI) ▸ Nat.lt_irrefl _)
  · rintro i v m₁ nx h tk own hi ⟨_, t, rfl⟩ hoff ⟨hI, hm⟩ F₁ N₁
    have e1 : (0 : Int) + (i : Int) * 1 = (i : Int) := by omega
    rw [e1] at F₁
    refine turn i nx t m₁ h tk own hi hoff hI ?_ N₁
    have em : (fun y => if y = x then some (Value.int (i : Int) t) else if stored.contains y then m₁ y else m₀ y) = fun y => if y = x then some (Value.int (i : Int) t) else m₁ y := by
      funext y
      by_cases hy : y = x
      · rw [if_pos hy, if_pos hy]
      · rw [if_neg hy, if_neg hy]
        cases hs : stored.contains y with
        | true => simp
        | false => simp only [Bool.false_eq_true, if_false]; exact (hm y hy hs).symm
    rw [em]; exact F₁
  · rintro m₁ nx h tk ⟨hI, hm⟩ F₁ N₁
    refine done nx m₁ h tk hI ?_ N₁
    have em : (fun y => if y = x then m₁ y else if stored.contains y then m₁ y else m₀ y) = m₁ := by
      funext y
      by_cases hy : y = x
      · rw [if_pos hy]
      · rw [if_neg hy]
        cases hs : stored.contains y with
        | true => simp
        | false => simp only [Bool.false_eq_true, if_false]; exact (hm y hy hs).symm
    rw [em]; exact F₁
end
end Mine
end
section
open PySem PySem.W PyProof.Rows PySem.Calls
namespace Mine
def rowKeys : List Int := lawRows.map (·.1)
theorem rowKeys_len : rowKeys.length = 36 := by decide
theorem rowKeys_asc : lks_asc rowKeys = true := by decide
theorem vals_ints : ∀ (l : List Int) (i : Nat) (t : Nat → Tok), kf_ints (lks_vals l i t) = true
  | [], _, _ => rfl
  | _ :: r, i, t => vals_ints r (i + 1) t
theorem vals_nums : ∀ (l : List Int) (i : Nat) (t : Nat → Tok), lks_nums (lks_vals l i t) = l
  | [], _, _ => rfl
  | x :: r, i, t => congrArg (x :: ·) (vals_nums r (i + 1) t)
theorem vals_are (l : List Int) (i : Nat) (t : Nat → Tok) : IntsAre (lks_vals l i t) l := by
  have := lks_are (vals_ints l i t)
  rwa [vals_nums] at this
section
variable {prog : Program} {w : World} {A : Around} {E : Value → Shared → Prop} {s : Shared} {h₀ : Heap} {L rd D : Addr} {m : Str → Option Value} {news : List (Addr × Obj)} {o : Obj} {kvs : List (Int × Value)} {Q : Value → Shared → Prop}
theorem sorted_rows (hh : A.handled = none) (F : Fr h₀ L s.heap m) (N : News h₀ L s.heap news) (hp : (rd, o) ∈ news) (hod : o.IsDictOf (PySem.intKind prog w) kvs) (lo : (rd == sysModules) = false) (hk : kvs.map (·.1) = rowKeys)
    (h : ∀ D vs c h' tk, Fr h₀ L h' m → News h₀ L h' ((D, listOf vs.toArray c) :: news) → (∀ q ∈ news, q.1 < D) → IntsAre vs rowKeys → Q (.ref D) { s with heap := h', toks := tk }) :
    wpAny (model prog w) A (call (.builtin "sorted") [.ref rd]) Q E s := by
  obtain ⟨ep, hat⟩ := (kda_dict N hp hod).dictAt
  have hl36 : kvs.length = 36 := by rw [← List.length_map (f := (·.1)), hk, rowKeys_len]
  refine kdu_sorted (kdl_dict (knd := PySem.intKind prog w) (kvs := kvs) (ep := ep) lo) hh F N hat (by rw [sizeLine_eq]; omega) fun D h' tk vs F' N' l1 hl hv => ?_
  have hi : IntsAre vs rowKeys := by
    rw [← hk]
    refine kdy_ints (by rw [List.length_map]; exact hl) fun j v e => ?_
    obtain ⟨k, x, hx, hkk⟩ := hv j v e
    refine ⟨k, by rw [List.getElem?_map, hx]; rfl, ?_⟩
    exact PyProof.V.Flat.int_inv (kdl_flat_int hkk)
  obtain ⟨t, rfl⟩ := lks_vals_of hi 0
  refine lks_sort (q := rowKeys) (its := (lks_vals rowKeys 0 t).toArray) (n := 0) (s := { s with heap := h', toks := tk }) (news' := fun t => (D, listOf (lks_vals rowKeys 0 t).toArray 2) :: news) F' N' (fun t => Upd.head fun p hp => Nat.ne_of_lt (l1 p hp)) ?_ ?_ ?_ ?_ fun t' h'' F'' N'' => ?_
  · exact vals_ints _ _ _
  · show lks_ok (lks_vals rowKeys 0 t) rowKeys = true
    unfold lks_ok
    rw [vals_nums, rowKeys_asc, Bool.and_true]
    exact List.isPerm_iff.mpr (List.Perm.refl _)
  · rw [show ((lks_vals rowKeys 0 t).toArray.toList) = lks_vals rowKeys 0 t from rfl]
    have := (vals_are rowKeys 0 t).length
    rw [rowKeys_len] at this
    cases h : lks_vals rowKeys 0 t with
    | nil => rw [h] at this; cases this
    | cons => rfl
  · show (lks_vals rowKeys 0 t).length < 64
    rw [(vals_are rowKeys 0 t).length, rowKeys_len]; decide
  · exact h D _ _ h'' tk F'' N'' l1 (vals_are _ _ _)
theorem len_rows (N : News h₀ L s.heap news) (hp : (rd, o) ∈ news) (hod : o.IsDictOf (PySem.intKind prog w) kvs) (lo : (rd == sysModules) = false) (hk : kvs.map (·.1) = rowKeys)
    (h : Q (.int 36 (s.toks + 1)) { s with toks := s.toks + 1 + 1 }) : wpAny (model prog w) A (call (.builtin "len") [.ref rd]) Q E s := by
  have hl36 : kvs.length = 36 := by rw [← List.length_map (f := (·.1)), hk, rowKeys_len]
  refine kda_len N hp hod lo (by omega) ?_
  rw [hl36]; exact h
end
section
variable {prog : Program} {w : World} {A : Around} {E : Value → Shared → Prop} {s : Shared} {h₀ : Heap} {L l : Addr} {news : List (Addr × Obj)} {Q : Value → Shared → Prop} {value slice : PySem.Expr} {k : Int} {u : Tok}
theorem item_made {vs : List Value} {c : Nat} {v : Value} (N : News h₀ L s.heap news) (hm : (l, listOf vs.toArray c) ∈ news) (h0 : 0 ≤ k) (hhi : k < 2 ^ 63) (hx : vs[k.toNat]? = some v) (h : Q v s)
    (hs : subscripted slice false (.ref l) (.int k u) = operate [.ref l, .int k u] (getItem (.ref l) (.int k u)) := by with_unfolding_all rfl) : wpAny (model prog w) A (subscriptTail value slice (.ref l) (.int k u)) Q E s :=
  have hl : s.heap.IsList l vs.toArray := ⟨_, (N _ hm).1, rfl, c, rfl⟩
  tail_any hl.typeIs slot_list_getitem.lookup (wpAny_getItem_list hl h0 hhi (by simpa using hx) h) hs
theorem item_key {vs : List Value} {c : Nat} (N : News h₀ L s.heap news) (hm : (l, listOf vs.toArray c) ∈ news) (hi : IntsAre vs rowKeys) (h0 : 0 ≤ k) (h1 : k < 36) (h : ∀ z t, z ∈ rowKeys → Q (.int z t) s)
    (hs : subscripted slice false (.ref l) (.int k u) = operate [.ref l, .int k u] (getItem (.ref l) (.int k u)) := by with_unfolding_all rfl) : wpAny (model prog w) A (subscriptTail value slice (.ref l) (.int k u)) Q E s := by
  have hlt : k.toNat < rowKeys.length := by rw [rowKeys_len]; omega
  obtain ⟨t, hx⟩ := hi.get k.toNat (rowKeys[k.toNat]) (List.getElem?_eq_getElem hlt)
  exact item_made N hm h0 (by omega) hx (h _ t (List.getElem_mem hlt)) hs
end
theorem row_of_key {k : Int} (h : k ∈ rowKeys) : ∃ r ∈ lawRows, r.1 = k := by
  obtain ⟨r, hr, e⟩ := List.mem_map.mp h
  exact ⟨r, hr, e⟩
theorem key_at {i : Int} (h0 : 0 ≤ i) (h1 : i < 36) : rowKeys.getD i.toNat 0 ∈ rowKeys := kso_getD (by rw [rowKeys_len]; omega)
theorem led_map {src st se b bd due rd : Addr} {so o1 o2 o3 o4 o5 o6 : Obj} {tl : List (Addr × Obj)} {es : List Ent} :
    (led src st se b bd due rd so o1 o2 o3 o4 o5 o6 es tl).map (·.1) = src :: st :: se :: b :: bd :: due :: rd :: (eQ es ++ tl.map (·.1)) := by
  simp [led, inner, eQ, Function.comp_def]
/-- what the written addresses are apart from, one by one -/
theorem Sy.ne {src st se b bd due rd : Addr} {tl : List (Addr × Obj)} {qs : List Addr} (S : Sy src st se b bd due rd tl qs) :
    (@Ne Nat src st) ∧ (@Ne Nat src se) ∧ (@Ne Nat src due) ∧ (@Ne Nat st se) ∧ (@Ne Nat st due) ∧ (@Ne Nat se due) ∧ (@Ne Nat b src) ∧ (@Ne Nat b st) ∧ (@Ne Nat b se) ∧ (@Ne Nat b due) ∧ (@Ne Nat bd src) ∧ (@Ne Nat bd st) ∧ (@Ne Nat bd se) ∧ (@Ne Nat bd due) ∧
    (@Ne Nat rd src) ∧ (@Ne Nat rd st) ∧ (@Ne Nat rd se) ∧ (@Ne Nat rd due) := by
  obtain ⟨nd, off⟩ := S
  have k1 := off src (.head _)
  have k2 := off st (.tail _ (.head _))
  have k3 := off se (.tail _ (.tail _ (.head _)))
  have k4 := off due (.tail _ (.tail _ (.tail _ (.head _))))
  simp only [List.nodup_cons, List.mem_cons, not_or] at nd
  exact ⟨nd.1.1, nd.1.2.1, nd.1.2.2.1, nd.2.1.1, nd.2.1.2.1, nd.2.2.1.1, k1.1, k2.1, k3.1, k4.1, k1.2.1, k2.2.1, k3.2.1, k4.2.1, k1.2.2.1, k2.2.2.1, k3.2.2.1, k4.2.2.1⟩
theorem Sy.tail {src st se b bd due rd : Addr} {tl : List (Addr × Obj)} {es : List Ent} (S : Sy src st se b bd due rd tl (eQ es)) :
    (∀ p ∈ inner es ++ tl, p.1 ≠ src) ∧ (∀ p ∈ inner es ++ tl, p.1 ≠ st) ∧ (∀ p ∈ inner es ++ tl, p.1 ≠ se) ∧ (∀ p ∈ inner es ++ tl, p.1 ≠ due) := by
  have o : Obj := instObj 0 0
  refine ⟨fun p hp => S.offSrc (o1 := o) (o2 := o) (o3 := o) (o4 := o) (o5 := o) (o6 := o) p ?_, fun p hp => S.offSt (so := o) (o2 := o) (o3 := o) (o4 := o) (o5 := o) (o6 := o) p ?_,
    fun p hp => S.offSe (so := o) (o1 := o) (o3 := o) (o4 := o) (o5 := o) (o6 := o) p ?_, fun p hp => S.offDue (so := o) (o1 := o) (o2 := o) (o3 := o) (o4 := o) (o6 := o) p ?_⟩ <;>
  exact .tail _ (.tail _ (.tail _ (.tail _ (.tail _ (.tail _ hp)))))
theorem Sy.own {src st se b bd due rd : Addr} {so o1 o2 o3 o4 o5 o6 : Obj} {tl own : List (Addr × Obj)} {es : List Ent} (S : Sy src st se b bd due rd tl (eQ es))
    (hoff : OwnOff own ((led src st se b bd due rd so o1 o2 o3 o4 o5 o6 es tl).map (·.1))) : Sy src st se b bd due rd (tl ++ own) (eQ es) := by
  refine ⟨S.nd, fun a ha => ⟨(S.off a ha).1, (S.off a ha).2.1, (S.off a ha).2.2.1, fun p hp => ?_⟩⟩
  rcases List.mem_append.mp hp with hp | hp
  · exact (S.off a ha).2.2.2 p hp
  · refine hoff p hp a ?_
    simp only [List.mem_cons] at ha
    rcases ha with rfl | rfl | rfl | rfl | ha
    · exact .head _
    · exact .tail _ (.head _)
    · exact .tail _ (.tail _ (.head _))
    · exact .tail _ (.tail _ (.tail _ (.tail _ (.tail _ (.head _)))))
    · refine .tail _ (.tail _ (.tail _ (.tail _ (.tail _ (.tail _ (.tail _ ?_))))))
      obtain ⟨e, he, rfl⟩ := List.mem_map.mp ha
      exact List.mem_map.mpr ⟨(e.q, entObj e), List.mem_append.mpr (.inl (List.mem_map.mpr ⟨e, he, rfl⟩)), rfl⟩
theorem led_own {h₀ h : Heap} {L : Addr} {src st se b bd due rd : Addr} {so o1 o2 o3 o4 o5 o6 : Obj} {tl own : List (Addr × Obj)} {es : List Ent} (N : News h₀ L h (led src st se b bd due rd so o1 o2 o3 o4 o5 o6 es tl ++ own)) :
    News h₀ L h ((src, so) :: (st, o1) :: (se, o2) :: (b, o3) :: (bd, o4) :: (due, o5) :: (rd, o6) :: (inner es ++ (tl ++ own))) := by
  simp only [led, List.cons_append, List.append_assoc] at N
  exact N
section
variable {prog : Program} {w : World} {A : Around} {E : Value → Shared → Prop} {s : Shared} {h₀ : Heap} {L D : Addr} {m : Str → Option Value} {news news' : List (Addr × Obj)} {vs : List Value} {n : Nat} {k : Int} {t : Tok} {v : Value}
theorem set_any {Q : Unit → Shared → Prop} (F : Fr h₀ L s.heap m) (N : News h₀ L s.heap news) (U : Upd D (listOf vs.toArray n) (listOf (vs.set k.toNat v).toArray n) news news') (h0 : 0 ≤ k) (h1 : k < vs.length) (hfit : k < 2 ^ 63)
    (h : ∀ h', Fr h₀ L h' m → News h₀ L h' news' → Q () { s with heap := h' }) : wpAny (model prog w) A (setItem (.ref D) (.int k t) v) Q E s := by
  obtain ⟨pre, post, rfl, rfl, a, b⟩ := U.split
  have z := N (D, listOf vs.toArray n) (List.mem_append.mpr (.inr (.head _)))
  refine ki_setAt z.1 h0 hfit (by rw [List.size_toArray]; exact h1) (h _ (F.change (Heap.SameBut.update ..) z.2.1 z.2.2) (ki_turn _ N a b ?_ ?_))
  · apply Array.toList_inj.mp; simp
  · simp
end
theorem news_sub {h₀ h : Heap} {L : Addr} {l l' : List (Addr × Obj)} (N : News h₀ L h l) (hs : ∀ p ∈ l', p ∈ l) : News h₀ L h l' := fun p hp => N p (hs p hp)
section
variable {prog : Program} {w : World} {A : Around} {E : Value → Shared → Prop} {s : Shared} {h₀ : Heap} {L : Addr} {m : Str → Option Value} {src st se b bd due rd : Addr} {so o1 o2 o3 o4 o5 o6 : Obj} {es : List Ent} {T : List (Addr × Obj)} {n1 : Nat} {k z : Int} {t tz : Tok} {vs : List Value} {ns : List Int}
theorem put_st {Q : Unit → Shared → Prop} (F : Fr h₀ L s.heap m) (S : Sy src st se b bd due rd T (eQ es)) (N : News h₀ L s.heap (led src st se b bd due rd so (listOf vs.toArray n1) o2 o3 o4 o5 o6 es T)) (hi : IntsAre vs ns) (h0 : 0 ≤ k) (hlt : k < ns.length) (hfit : k < 2 ^ 63)
    (h : ∀ h' vs', Fr h₀ L h' m → News h₀ L h' (led src st se b bd due rd so (listOf (List.toArray vs') n1) o2 o3 o4 o5 o6 es T) → IntsAre vs' (ns.set k.toNat z) → Q () { s with heap := h' }) : wpAny (model prog w) A (setItem (.ref st) (.int k t) (.int z tz)) Q E s :=
  set_any (vs := vs) (n := n1) (news' := led src st se b bd due rd so (listOf (vs.set k.toNat (.int z tz)).toArray n1) o2 o3 o4 o5 o6 es T) F N (.tail S.ne.1 (.head fun p hp => S.offSt (so := so) (o2 := o2) (o3 := o3) (o4 := o4) (o5 := o5) (o6 := o6) p (.tail _ hp))) h0 (by rw [hi.length]; exact hlt) hfit fun h' F' N' => h h' _ F' N' (ints_set hi _)
theorem put_se {Q : Unit → Shared → Prop} (F : Fr h₀ L s.heap m) (S : Sy src st se b bd due rd T (eQ es)) (N : News h₀ L s.heap (led src st se b bd due rd so o1 (listOf vs.toArray n1) o3 o4 o5 o6 es T)) (hi : IntsAre vs ns) (h0 : 0 ≤ k) (hlt : k < ns.length) (hfit : k < 2 ^ 63)
    (h : ∀ h' vs', Fr h₀ L h' m → News h₀ L h' (led src st se b bd due rd so o1 (listOf (List.toArray vs') n1) o3 o4 o5 o6 es T) → IntsAre vs' (ns.set k.toNat z) → Q () { s with heap := h' }) : wpAny (model prog w) A (setItem (.ref se) (.int k t) (.int z tz)) Q E s :=
  set_any (vs := vs) (n := n1) (news' := led src st se b bd due rd so o1 (listOf (vs.set k.toNat (.int z tz)).toArray n1) o3 o4 o5 o6 es T) F N (.tail S.ne.2.1 (.tail S.ne.2.2.2.1 (.head fun p hp => S.offSe (so := so) (o1 := o1) (o3 := o3) (o4 := o4) (o5 := o5) (o6 := o6) p (.tail _ (.tail _ hp))))) h0 (by rw [hi.length]; exact hlt) hfit fun h' F' N' => h h' _ F' N' (ints_set hi _)
theorem push_due {Q : Value → Shared → Prop} {q : Addr} {oq : Obj} {xs : List Value} {v : Value} (F : Fr h₀ L s.heap m) (S : Sy src st se b bd due rd T (eQ es)) (N : News h₀ L s.heap ((q, oq) :: led src st se b bd due rd so o1 o2 o3 o4 (listOf xs.toArray n1) o6 es T)) (hq : @Ne Nat q due) (hsz : xs.length < 1000)
    (h : ∀ h', Fr h₀ L h' m → News h₀ L h' ((q, oq) :: led src st se b bd due rd so o1 o2 o3 o4 (listOf (xs ++ [v]).toArray (n1 + 1)) o6 es T) → Q .none { s with heap := h' }) : wpAny (model prog w) A (call (.builtin "list.append") [.ref due, v]) Q E s := by
  have ne := S.ne
  have e : xs.toArray.push v = (xs ++ [v]).toArray := by simp
  refine append_K (its := xs.toArray) (n := n1) (news' := (q, oq) :: led src st se b bd due rd so o1 o2 o3 o4 (listOf (xs.toArray.push v) (n1 + 1)) o6 es T) F N (.tail hq (.tail ne.2.2.1 (.tail ne.2.2.2.2.1 (.tail ne.2.2.2.2.2.1 (.tail ne.2.2.2.2.2.2.2.2.2.1 (.tail ne.2.2.2.2.2.2.2.2.2.2.2.2.2.1 (.head fun p hp => ?_))))))) (fun h' F' N' => h h' F' ?_) (by rw [List.size_toArray, sizeLine_eq]; omega)
  · exact S.offDue (so := so) (o1 := o1) (o2 := o2) (o3 := o3) (o4 := o4) (o6 := o6) p (.tail _ (.tail _ (.tail _ (.tail _ (.tail _ hp)))))
  · rw [e] at N'; exact N'
end
end Mine
end
section
open PySem PySem.W PyProof.Rows PySem.Calls
namespace Mine
section
variable {prog : Program} {w : World} {A : Around} {E : Value → Shared → Prop} {s : Shared} {h₀ : Heap} {L D : Addr} {m : Str → Option Value} {news news' : List (Addr × Obj)} {vs : List Value} {n : Nat} {k : Int} {t : Tok} {v : Value}
theorem set_front {Q : Unit → Shared → Prop} {ns : List Int} {z : Int} {tz : Tok} (F : Fr h₀ L s.heap m) (N : News h₀ L s.heap ((D, listOf vs.toArray n) :: news)) (hD : ∀ p ∈ news, p.1 ≠ D) (hi : IntsAre vs ns) (h0 : 0 ≤ k) (h1 : k < ns.length) (hfit : k < 2 ^ 63)
    (h : ∀ h' vs', Fr h₀ L h' m → News h₀ L h' ((D, listOf (List.toArray vs') n) :: news) → IntsAre vs' (ns.set k.toNat z) → Q () { s with heap := h' }) : wpAny (model prog w) A (setItem (.ref D) (.int k t) (.int z tz)) Q E s :=
  set_any (news' := (D, listOf (vs.set k.toNat (.int z tz)).toArray n) :: news) F N (.head hD) h0 (by rw [hi.length]; exact h1) hfit fun h' F' N' => h h' _ F' N' (ints_set hi _)
theorem item_made3 {l : Addr} {value slice : PySem.Expr} {u : Tok} {Q : Value → Shared → Prop} {c : Nat} (N : News h₀ L s.heap news) (hm : (l, listOf vs.toArray c) ∈ news) (h0 : 0 ≤ k) (hhi : k < 2 ^ 63) (hx : vs[k.toNat]? = some v) (h : Q v s)
    (hs : subscripted slice false (.ref l) (.int k u) = operate [.ref l, .int k u] (getItem (.ref l) (.int k u)) := by with_unfolding_all rfl) : wpAny (model prog w) A (subscriptTail value slice (.ref l) (.int k u)) Q E s :=
  have hl : s.heap.IsList l vs.toArray := ⟨_, (N _ hm).1, rfl, c, rfl⟩
  tail_any hl.typeIs slot_list_getitem.lookup (wpAny_getItem_list hl h0 hhi (by simpa using hx) h) hs
theorem item_three {l : Addr} {value slice : PySem.Expr} {u : Tok} {Q : Value → Shared → Prop} {x y z : Int} {t1 t2 t3 : Tok} {c : Nat} (N : News h₀ L s.heap news) (hm : (l, listOf #[.int x t1, .int y t2, .int z t3] c) ∈ news) (h0 : 0 ≤ k) (h1 : k < 3) (h : ∀ z t, Q (.int z t) s)
    (hs : subscripted slice false (.ref l) (.int k u) = operate [.ref l, .int k u] (getItem (.ref l) (.int k u)) := by with_unfolding_all rfl) : wpAny (model prog w) A (subscriptTail value slice (.ref l) (.int k u)) Q E s := by
  have hk : k = 0 ∨ k = 1 ∨ k = 2 := by omega
  rcases hk with rfl | rfl | rfl
  · exact item_made3 (vs := [.int x t1, .int y t2, .int z t3]) N hm (v := .int x t1) (by decide) (by decide) rfl (h _ _) hs
  · exact item_made3 (vs := [.int x t1, .int y t2, .int z t3]) N hm (v := .int y t2) (by decide) (by decide) rfl (h _ _) hs
  · exact item_made3 (vs := [.int x t1, .int y t2, .int z t3]) N hm (v := .int z t3) (by decide) (by decide) rfl (h _ _) hs
theorem ne_same {a b : Addr} {Q : Value → Shared → Prop} {xs ys : List Value} {ns : List Int} {k j : Nat} (N : News h₀ L s.heap news) (ha : (a, listOf xs.toArray k) ∈ news) (hb : (b, listOf ys.toArray j) ∈ news) (hx : IntsAre xs ns) (hy : IntsAre ys ns) (hu : A.units + 64 < cLine)
    (h : Q (.bool false) s) : wpAny (model prog w) A (compareOp .NotEq (.ref a) (.ref b)) Q E s :=
  ne_intsK ⟨_, (N _ ha).1, rfl, k, rfl⟩ hx ⟨_, (N _ hb).1, rfl, j, rfl⟩ hy hu (by rw [decide_eq_true rfl]; exact h)
theorem eq_same {a b : Addr} {Q : Value → Shared → Prop} {xs ys : List Value} {ns : List Int} {k j : Nat} (N : News h₀ L s.heap news) (ha : (a, listOf xs.toArray k) ∈ news) (hb : (b, listOf ys.toArray j) ∈ news) (hx : IntsAre xs ns) (hy : IntsAre ys ns) (hu : A.units + 64 < cLine)
    (h : Q (.bool true) s) : wpAny (model prog w) A (compareOp .Eq (.ref a) (.ref b)) Q E s :=
  eq_intsK ⟨_, (N _ ha).1, rfl, k, rfl⟩ hx ⟨_, (N _ hb).1, rfl, j, rfl⟩ hy hu (by rw [decide_eq_true rfl]; exact h)
theorem ints_rep {z : Int} {t : Tok} : ∀ {k : Nat}, IntsAre (List.replicate k [Value.int z t]).flatten (List.replicate k z)
  | 0 => .nil
  | k + 1 => by
    rw [List.replicate_succ, List.replicate_succ, List.flatten_cons]
    exact .cons _ _ ints_rep
theorem mul_one {l : Addr} {x z : Int} {tz u : Tok} {Q : Value → Shared → Prop} {c : Nat} (Fm : Fr h₀ L s.heap m) (N : News h₀ L s.heap news) (hm : (l, listOf #[.int z tz] c) ∈ news) (hlo : 0 ≤ x) (hhi : x < 100)
    (h : ∀ D ws h', Fr h₀ L h' m → News h₀ L h' ((D, listOf (List.toArray ws) 0) :: news) → IntsAre ws (List.replicate x.toNat z) → Q (.ref D) { s with heap := h' }) : wpAny (model prog w) A (binaryOp .Mult (.ref l) (.int x u)) Q E s :=
  KMa.mul (vs := [.int z tz]) Fm N ⟨_, (N _ hm).1, rfl, c, rfl⟩ (by omega) (by omega) (by simp only [List.length_cons, List.length_nil]; omega) rfl fun D h' F' N' _ => h D _ h' F' N' ints_rep
end
section
variable {prog : Program} {w : World} {A : Around} {E : Value → Shared → Prop} {s : Shared} {h₀ : Heap} {L D l : Addr} {m : Str → Option Value} {news : List (Addr × Obj)} {vs : List Value} {n c i r : Nat} {k x z : Int} {t u tz : Tok}
theorem set_rep {many : Nat} {Q : Unit → Shared → Prop} (F : Fr h₀ L s.heap m) (N : News h₀ L s.heap ((D, listOf vs.toArray n) :: news)) (hD : ∀ p ∈ news, p.1 ≠ D) (hi : IntsAre vs (List.replicate i 1 ++ List.replicate (many - i) z)) (hr : i < many) (hsm : i < 1000)
    (h : ∀ h' vs', Fr h₀ L h' m → News h₀ L h' ((D, listOf (List.toArray vs') n) :: news) → IntsAre vs' (List.replicate (i + 1) 1 ++ List.replicate (many - (i + 1)) z) → Q () { s with heap := h' }) : wpAny (model prog w) A (setItem (.ref D) (.int (i : Int) t) (.int 1 tz)) Q E s := by
  have e : (List.replicate i (1 : Int) ++ List.replicate (many - i) z).set (i : Int).toNat 1 = List.replicate (i + 1) 1 ++ List.replicate (many - (i + 1)) z := by
    rw [Int.toNat_natCast, show many - i = (many - (i + 1)) + 1 by omega, List.set_append_right _ _ (by simp), List.length_replicate, Nat.sub_self, List.replicate_succ (n := many - (i + 1)), List.set_cons_zero, List.replicate_succ' (n := i), List.append_assoc]
    rfl
  refine set_front F N hD hi (by omega) ?_ (by omega) fun h' vs' F' N' i' => h h' vs' F' N' ?_
  · rw [List.length_append, List.length_replicate, List.length_replicate]; omega
  · rw [e] at i'; exact i'
theorem slice_rep {Q : Value → Shared → Prop} {value slice : PySem.Expr} (F : Fr h₀ L s.heap m) (N : News h₀ L s.heap news) (hm : (l, listOf vs.toArray c) ∈ news) (hi : IntsAre vs (List.replicate i 1 ++ List.replicate r z)) (hx : x = (i : Int)) (hsm : i + r < 1000)
    (h : ∀ D ws h', Fr h₀ L h' m → News h₀ L h' ((D, listOf (List.toArray ws) 0) :: news) → IntsAre ws (List.replicate r z) → Q (.ref D) { s with heap := h' })
    (hs : subscripted slice false (.ref l) (.ref s.heap.objs.size) = operate [.ref s.heap.objs.size, .ref l] (getItem (.ref l) (.ref s.heap.objs.size))) (ht : ∀ r, letTemporaryGo value (.ref l) r = pure ()) :
    wpAny (model prog w) A (subscriptTail value slice (.ref l) (.ref s.heap.objs.size)) Q E { s with heap := s.heap.push { cls := .type "slice", data := .fields #[.int x u, .none, .none] } } := by
  have e : (List.replicate i (1 : Int) ++ List.replicate r z).drop x.toNat = List.replicate r z := by
    rw [hx, Int.toNat_natCast]
    exact List.drop_left' (by simp)
  refine kmk_slice_ints F N ⟨_, (N _ hm).1, rfl, c, rfl⟩ (IsPart.int _ _) IsPart.none hi (kmk_from hi (by omega)) rfl (fun D ws h' F' N' _ iv _ _ => h D ws h' F' N' ?_) hs ht (kmk_sz hi ?_)
  · rw [e] at iv; exact iv
  · rw [List.length_append, List.length_replicate, List.length_replicate, sizeLine_eq]; omega
theorem ne_rep {a b : Addr} {Q : Value → Shared → Prop} {xs ys : List Value} {g g' k j : Nat} (N : News h₀ L s.heap news) (ha : (a, listOf xs.toArray k) ∈ news) (hb : (b, listOf ys.toArray j) ∈ news) (hx : IntsAre xs (List.replicate g z)) (hy : IntsAre ys (List.replicate g' z)) (hg : g = g') (hu : A.units + 64 < cLine)
    (h : Q (.bool false) s) : wpAny (model prog w) A (compareOp .NotEq (.ref a) (.ref b)) Q E s := by
  subst hg
  exact ne_same N ha hb hx hy hu h
end
def NI (st : Addr) (n1 : Nat) (R : List (Addr × Obj)) (many i : Nat) (z : Int) (nx : List (Addr × Obj)) : Prop :=
  ∃ vs : List Value, nx = (st, listOf (List.toArray vs) n1) :: R ∧ IntsAre vs (List.replicate i 1 ++ List.replicate (many - i) z)
theorem ni_turn {st : Addr} {n1 many i : Nat} {R own : List (Addr × Obj)} {z : Int} {h₀ h' : Heap} {L : Addr} {m' m₀ : Str → Option Value} {a b c : Addr × Obj} {vs : List Value} {s₁ : Shared} {tk : Nat} {stored : List Str} {nm : Str} {o : Obj}
    (F : Fr h₀ L h' m') (N : News h₀ L h' (a :: b :: c :: (st, listOf (List.toArray vs) n1) :: (R ++ own))) (hoff : OwnOff own (((st, o) :: R).map (·.1))) (hv : IntsAre vs (List.replicate (i + 1) 1 ++ List.replicate (many - (i + 1)) z)) (hm : ∀ y, y ≠ nm → stored.contains y = false → m' y = m₀ y) :
    InvEndG h₀ L (fun m' nx' => NI st n1 R many (i + 1) z nx' ∧ ∀ y, y ≠ nm → stored.contains y = false → m' y = m₀ y) own s₁ { s₁ with heap := h', toks := tk } := by
  refine InvEndG.intro F N ⟨⟨vs, rfl, hv⟩, hm⟩ hoff (fun p hp => ?_) (fun p hp => ?_)
  · simp only [List.mem_cons, List.mem_append] at hp ⊢
    rcases hp with h | h <;> simp [h]
  · simp only [List.mem_cons, List.mem_append]
    simp [hp]
theorem tail_ne {d a : Addr} {l : List (Addr × Obj)} (h : AllLt d l) (hd : @LT.lt Nat _ d a) : ∀ p ∈ l, p.1 ≠ a := fun p hp => Nat.ne_of_lt (Nat.lt_trans (kst_ltOf h p hp) hd)
local macro_rules | `(tactic| k_all) => `(tactic| assumption)
local macro_rules | `(tactic| walk_at $s:str) => `(tactic| k_extra $s)
local macro_rules | `(tactic| walk_at "InvEndG") => `(tactic| (k_here; refine Hold.out ?_))
local macro_rules | `(tactic| walk_at "pyIter ref") => `(tactic| (k_here; refine Hold.out ?_))
theorem new_right_says {w : World} {p : Program} {loose : List Str} {mean : ExcName → Option Value} {mg mb : Str → Option Value}
    {dp un : Nat} {gd : Option (List Code)} {cn : Str} {cs : Scope} {a : Addr} {ccd : Value} {cl : List (Str × Addr)} {outer : List Env} {A₀ : Around} {base h₀ : Heap} {L : Addr} {m : Str → Option Value}
    {news : List (Addr × Obj)} {s : Shared} {Q E : Value → Shared → Prop} {src : Addr} {d x : Int} {td tx : Tok} {n : Nat}
    (B : Below A₀ base outer h₀) (F : Fr h₀ L s.heap m) (X : (hd.heap_39 w.params).In h₀) (N : News h₀ L s.heap ((src, listOf #[.int d td, .int x tx] n) :: news)) (T : Top p loose mean mg mb h₀)
    (hk : cs.kind = .function) (hdp : dp + 8 < recursionLimit) (hu : un + 200 < cLine)
    (hne : ∀ p ∈ news, p.1 ≠ src)
    (ret : ∀ (d x : Int) (td tx : Tok) (h' : Heap) (tk' : Nat), Fr h₀ L h' m →
      News h₀ L h' ((src, listOf #[.int d td, .int x tx] n) :: news) → Q (.bool true) { s with heap := h', toks := tk' }) :
    wpAny (model PySem.Challenge.rw_nz0236_01.row.prog w) (ktrTop dp un gd cn cs L a ccd cl outer) (call (.ref 205) [.ref src]) Q E s := by
  w_top off; k_with_none
  (k_with "call ref" => (k_here; (with_reducible show wpAny _ _ (call (Value.ref 179) [Value.ref _, Value.int _ _]) _ _ _); k_dflt (refine' take_says ?q9kB ?q9kF ?q9kX ?q9kN ?q9kT ?q9kk ?q9kne ?q9k0 ?q9kt ?q9kd ?q9ku ?_; (case q9kB => k_asm); (case q9kF => k_asm); (case q9kX => assumption); (case q9kT => k_asm); (case q9kk => rfl); (case q9k0 => decide); (case q9kt => decide); (case q9kd => ktr_room); (case q9ku => ktr_units); (case q9kN => first | k_asm | exact news_swap (by k_asm)); (case q9kne => first | assumption | k_all)); intro _ _ _ _ _ _ _ _ _ _ _ _))
  (k_with "call ref" => (k_here; (with_reducible show wpAny _ _ (call (Value.ref 147) [Value.int _ _]) _ _ _); k_dflt (refine' bins_says ?q9kB ?q9kF ?q9kX ?q9kN ?q9kT ?q9kk ?q9kd ?q9k0 ?q9k1 ?_; (case q9kB => k_asm); (case q9kF => k_asm); (case q9kX => assumption); (case q9kT => k_asm); (case q9kk => rfl); (case q9k0 => assumption); (case q9k1 => omega); (case q9kd => ktr_room); (case q9kN => k_asm)); intro _ _ _ _ _ _ _ _ _ _ _ _ _ _ _ _ _ _ _ _ _ _))
  (k_with "call ref" => (k_here; (with_reducible show wpAny _ _ (call (Value.ref 147) [Value.int _ _, Value.int _ _]) _ _ _); k_dflt (refine' bins2_says ?q9kB ?q9kF ?q9kX ?q9kN ?q9kT ?q9kk ?q9kd ?q9k0 ?q9k1 ?_; (case q9kB => k_asm); (case q9kF => k_asm); (case q9kX => assumption); (case q9kT => k_asm); (case q9kk => rfl); (case q9k0 => assumption); (case q9k1 => omega); (case q9kd => ktr_room); (case q9kN => k_asm)); intro _ _ _ _ _ _ _ _ _ _ _ _ _ _ _ _ _ _ _ _ _ _))
  (k_with "subscriptTail" => (k_here; (with_reducible show wpAny _ _ (subscriptTail _ _ (Value.ref _) (Value.int _ _)) _ _ _); k_dflt (refine' item_three ?q9N ?q9hm ?q9h0 ?q9h1 ?_ ?q9hs; (case q9N => k_asm); (case q9hm => k_mem); (case q9h0 => assumption); (case q9h1 => assumption); (case q9hs => with_unfolding_all rfl)); intro _ _))
  (k_with "binaryOp Mult ref int" => (k_here; k_dflt (refine' mul_one ?q9F ?q9N ?q9l ?q9lo ?q9hi ?_; (case q9F => k_asm); (case q9N => k_asm); (case q9l => k_mem); (case q9lo => omega); (case q9hi => omega)); intro _ _ _ _ _ _))
  (k_with "compareOp NotEq ref ref" => (k_here; k_dflt (refine' ne_rep ?q9N ?q9a ?q9b ?q9x ?q9y ?q9g ?q9u ?_; (case q9N => k_asm); (case q9a => k_mem); (case q9b => k_mem); (case q9x => assumption); (case q9y => assumption); (case q9g => first | rfl | omega); (case q9u => ktr_units))))
  (k_with "compareOp Eq ref ref" => (k_here; k_dflt (refine' eq_same ?q9N ?q9a ?q9b ?q9x ?q9y ?q9u ?_; (case q9N => k_asm); (case q9a => k_mem); (case q9b => k_mem); (case q9x => assumption); (case q9y => assumption); (case q9u => ktr_units))))
  (k_with "setItem ref int" => (k_here; (with_reducible show wpAny _ _ (setItem (Value.ref _) (Value.int (Nat.cast _) _) (Value.int 1 _)) _ _ _); k_dflt (refine' set_rep ?q9F ?q9N ?q9d ?q9i ?q9r ?q9s ?_; (case q9F => k_asm); (case q9N => k_asm); (case q9d => assumption); (case q9i => assumption); (case q9r => assumption); (case q9s => omega)); intro _ _ _ _ _))
  (k_with "subscriptTail Name Slice ref ref" => (k_here; k_dflt (refine' slice_rep ?q9F ?q9N ?q9m ?q9i ?q9x ?q9sm ?_ ?q9s ?q9t; (case q9F => k_asm); (case q9N => k_asm); (case q9m => k_mem); (case q9i => assumption); (case q9x => omega); (case q9sm => omega); (case q9s => with_unfolding_all rfl); (case q9t => (intro _; with_unfolding_all rfl))); intro _ _ _ _ _ _))
  (k_with "call type:range" => (k_here; (with_unfolding_all (refine' range1_rows ?q9F ?q9N ?_; (case q9F => k_asm); (case q9N => k_asm))); intro _ _ _ _ _ _ _ _ _))
  revert X; k_fill; intro X
  refine wpAny_call ?_
  k_dflt ktr_enter
  k_steps
  rename_i g9 L9 h9 FG9 B9 X9 T9 tk0 mv mt d1 x1 td1 tx1 hA tkA m0 m4 lA hB lo1 iv0 it d2 x2 td2 tx2 hC tkC i0 i3 z tz DT hD lo2 hE hF hG tk1 b bd st se h1 h2 t1 t2 vsA usA n1 n2 hH tkH iv iu al lb ls le b2 bd2 st2 se2 h3 h4 t3 t4 vsB usB n3 n4 hI tkI iv2 iu2 al2 lb2 ls2 le2 DU hJ lo3 hK hL hM tk2 lB hN lo4 DV wsA hO iA lC hP lo5 DW wsB hQ iB lD hR F5 N5 lo6 DX wsC hS F6 N6 iC hT tkT ta tb tc R F7 N7 kp
  have a1 : @LT.lt Nat _ src bd := of_allLt al (src, listOf #[.int d2 td2, .int x2 tx2] n) (by simp)
  have a2 : ∀ p ∈ news, @LT.lt Nat _ p.1 bd := fun p hp => of_allLt al p (by simp [hp])
  have a3 : @LT.lt Nat _ st bd2 := of_allLt al2 (st, listOf vsA.toArray n1) (by simp)
  have hst : ∀ p ∈ ((b, instObj 147 bd) :: (bd, binsDict h1 h2 t1 t2 st se) :: (src, listOf #[.int d2 td2, .int x2 tx2] n) :: (st2, listOf vsB.toArray n3) :: (b2, instObj 147 bd2) :: (bd2, binsDict h3 h4 t3 t4 st2 se2) :: news : List (Addr × Obj)), p.1 ≠ st := by
    intro p hp
    simp only [List.mem_cons] at hp
    rcases hp with rfl | rfl | rfl | rfl | rfl | rfl | hp
    · exact Nat.ne_of_lt ls
    · exact Nat.ne_of_lt (Nat.lt_trans lb ls)
    · exact Nat.ne_of_lt (Nat.lt_trans a1 (Nat.lt_trans lb ls))
    · exact Nat.ne_of_gt (Nat.lt_trans a3 (Nat.lt_trans lb2 ls2))
    · exact Nat.ne_of_gt (Nat.lt_trans a3 lb2)
    · exact Nat.ne_of_gt a3
    · exact Nat.ne_of_lt (Nat.lt_trans (a2 p hp) (Nat.lt_trans lb ls))
  refine my_range (L := L9) (n := mv.toNat) [] _ (fun i => NI st n1 ((b, instObj 147 bd) :: (bd, binsDict h1 h2 t1 t2 st se) :: (src, listOf #[.int d2 td2, .int x2 tx2] n) :: (st2, listOf vsB.toArray n3) :: (b2, instObj 147 bd2) :: (bd2, binsDict h3 h4 t3 t4 st2 se2) :: news) mv.toNat i z) rfl rfl R (small_one (by omega) (by omega) (by omega) (by omega)) ((rangeSize_nat _ _).trans (by omega)) F7 N7 ?_ ⟨vsA, rfl, iv⟩ ?_ ?_
  · intro p hp
    simp only [List.mem_cons] at hp ⊢
    rcases hp with h | h | h | h | h | h | h | h <;> simp [h]
  · clear lo1 lo2 lo3 lo4 lo5 lo6 F5 N5 F6 N6 F7 N7 kp R al al2 iA iB iC a1 a2 a3
    rintro i nx t u h tk own hi hoff ⟨vs, rfl, hv⟩ F' N'
    simp only [List.cons_append] at N'
    have hst' : ∀ p ∈ ((b, instObj 147 bd) :: (bd, binsDict h1 h2 t1 t2 st se) :: (src, listOf #[.int d2 td2, .int x2 tx2] n) :: (st2, listOf vsB.toArray n3) :: (b2, instObj 147 bd2) :: (bd2, binsDict h3 h4 t3 t4 st2 se2) :: (news ++ own) : List (Addr × Obj)), p.1 ≠ st := fun p hp => by
      have hp' : p ∈ ((b, instObj 147 bd) :: (bd, binsDict h1 h2 t1 t2 st se) :: (src, listOf #[.int d2 td2, .int x2 tx2] n) :: (st2, listOf vsB.toArray n3) :: (b2, instObj 147 bd2) :: (bd2, binsDict h3 h4 t3 t4 st2 se2) :: news) ++ own := hp
      rcases List.mem_append.mp hp' with hp | hp
      · exact hst p hp
      · exact hoff p hp st (by simp)
    (try k_fold)
    k_steps
    all_goals (
      unfold Hold
      exact ni_turn (R := (b, instObj 147 bd) :: (bd, binsDict h1 h2 t1 t2 st se) :: (src, listOf #[.int d2 td2, .int x2 tx2] n) :: (st2, listOf vsB.toArray n3) :: (b2, instObj 147 bd2) :: (bd2, binsDict h3 h4 t3 t4 st2 se2) :: news) (by assumption) (by assumption) hoff (by assumption) (fun y hy _ => if_neg hy))
  · clear lo1 lo2 lo3 lo4 lo5 lo6 F5 N5 F6 N6 F7 N7 kp R al al2 iA iB iC a1 a2 a3
    rintro nx u h tk ⟨vs, rfl, hv⟩ F' N'
    (try k_fold)
    k_steps
    all_goals exact ret _ _ _ _ _ _ (by assumption) (news_sub (by assumption) fun p hp => by rcases List.mem_cons.mp hp with hp | hp; (subst hp; kst_entry); kst_mem)
end Mine
end
section
open PySem PySem.W PyProof.Rows PySem.Calls
namespace Mine
section
variable {h₀ h : Heap} {L : Addr} {a b c d e q : Addr × Obj} {r : List (Addr × Obj)}
theorem news_more (N : News h₀ L h (a :: b :: c :: d :: e :: r)) : News h₀ L h (b :: d :: e :: a :: c :: r) := fun p hp => N p (by
  simp only [List.mem_cons] at hp ⊢
  rcases hp with h | h | h | h | h | h <;> simp [h])
theorem news_more' (N : News h₀ L h (b :: d :: e :: a :: c :: r)) : News h₀ L h (a :: b :: c :: d :: e :: r) := fun p hp => N p (by
  simp only [List.mem_cons] at hp ⊢
  rcases hp with h | h | h | h | h | h <;> simp [h])
theorem news_less (N : News h₀ L h (a :: b :: c :: d :: e :: r)) : News h₀ L h (b :: c :: d :: e :: a :: r) := fun p hp => N p (by
  simp only [List.mem_cons] at hp ⊢
  rcases hp with h | h | h | h | h | h <;> simp [h])
theorem news_less' (N : News h₀ L h (b :: c :: d :: e :: a :: r)) : News h₀ L h (a :: b :: c :: d :: e :: r) := fun p hp => N p (by
  simp only [List.mem_cons] at hp ⊢
  rcases hp with h | h | h | h | h | h <;> simp [h])
end
local macro_rules | `(tactic| k_all) => `(tactic| assumption)
local macro_rules | `(tactic| walk_at $s:str) => `(tactic| k_extra $s)
local macro_rules | `(tactic| walk_at "pyIter ref") => `(tactic| (k_here; refine Hold.out ?_))
def FI (src st se b bd : Addr) (n n1 n2 : Nat) (h1 h2 : Int) (t1 t2 : Tok) (tl : List (Addr × Obj)) (nx : List (Addr × Obj)) : Prop :=
  ∃ (d x : Int) (td tx : Tok) (vs us : List Value), nx = (src, listOf #[.int d td, .int x tx] n) :: (st, listOf vs.toArray n1) :: (se, listOf us.toArray n2) :: (b, instObj 147 bd) :: (bd, binsDict h1 h2 t1 t2 st se) :: tl ∧ IntsAre vs [113, 113] ∧ IntsAre us [0, 0]
theorem fi_turn {src st se b bd : Addr} {n n1 n2 : Nat} {h1 h2 : Int} {t1 t2 : Tok} {tl own : List (Addr × Obj)} {h₀ h' : Heap} {L : Addr} {m' m₀ : Str → Option Value} {d x : Int} {td tx : Tok} {vs us : List Value} {s₁ : Shared} {tk : Nat} {stored : List Str} {nm : Str} {p0 p1 p2 p3 p4 : Obj}
    (F : Fr h₀ L h' m') (N : News h₀ L h' ((src, listOf #[.int d td, .int x tx] n) :: (st, listOf vs.toArray n1) :: (se, listOf us.toArray n2) :: (b, instObj 147 bd) :: (bd, binsDict h1 h2 t1 t2 st se) :: (tl ++ own)))
    (hoff : OwnOff own (((src, p0) :: (st, p1) :: (se, p2) :: (b, p3) :: (bd, p4) :: tl).map (·.1))) (hv : IntsAre vs [113, 113]) (hu : IntsAre us [0, 0]) (hm : ∀ y, y ≠ nm → stored.contains y = false → m' y = m₀ y) :
    InvEndG h₀ L (fun m' nx' => FI src st se b bd n n1 n2 h1 h2 t1 t2 tl nx' ∧ ∀ y, y ≠ nm → stored.contains y = false → m' y = m₀ y) own s₁ { s₁ with heap := h', toks := tk } := by
  refine InvEndG.intro F N ⟨⟨d, x, td, tx, vs, us, rfl, hv, hu⟩, hm⟩ hoff (fun p hp => ?_) (fun p hp => ?_)
  · simp only [List.mem_cons, List.mem_append] at hp ⊢
    rcases hp with h | h | h | h | h | h <;> simp [h]
  · simp only [List.mem_cons, List.mem_append]
    simp [hp]
theorem fixed_right_says {w : World} {p : Program} {loose : List Str} {mean : ExcName → Option Value} {mg mb : Str → Option Value}
    {dp un : Nat} {gd : Option (List Code)} {cn : Str} {cs : Scope} {a : Addr} {ccd : Value} {cl : List (Str × Addr)} {outer : List Env} {A₀ : Around} {base h₀ : Heap} {L : Addr} {m : Str → Option Value}
    {news : List (Addr × Obj)} {s : Shared} {Q E : Value → Shared → Prop} {src : Addr} {d x : Int} {td tx : Tok} {n : Nat}
    (B : Below A₀ base outer h₀) (F : Fr h₀ L s.heap m) (X : (hd.heap_39 w.params).In h₀) (N : News h₀ L s.heap ((src, listOf #[.int d td, .int x tx] n) :: news)) (T : Top p loose mean mg mb h₀)
    (hk : cs.kind = .function) (hdp : dp + 8 < recursionLimit) (hu : un + 200 < cLine)
    (hne : ∀ p ∈ news, p.1 ≠ src)
    (ret : ∀ (h' : Heap) (tk' : Nat), Fr h₀ L h' m → Q (.bool true) { s with heap := h', toks := tk' }) :
    wpAny (model PySem.Challenge.rw_nz0236_01.row.prog w) (ktrTop dp un gd cn cs L a ccd cl outer) (call (.ref 212) [.ref src]) Q E s := by
  w_top off; k_with_none
  (k_with "call ref" => (k_here; (with_reducible show wpAny _ _ (call (Value.ref 179) [Value.ref _, Value.int _ _]) _ _ _); k_dflt (refine' take_says ?q9kB ?q9kF ?q9kX ?q9kN ?q9kT ?q9kk ?q9kne ?q9k0 ?q9kt ?q9kd ?q9ku ?_; (case q9kB => k_asm); (case q9kF => k_asm); (case q9kX => assumption); (case q9kT => k_asm); (case q9kk => rfl); (case q9k0 => decide); (case q9kt => decide); (case q9kd => ktr_room); (case q9ku => ktr_units); (case q9kN => first | k_asm | exact news_swap (by k_asm)); (case q9kne => first | assumption | k_all)); intro _ _ _ _ _ _ _ _ _ _ _ _))
  (k_with "call ref" => (k_here; (with_reducible show wpAny _ _ (call (Value.ref 147) [Value.int _ _, Value.int _ _]) _ _ _); k_dflt (refine' bins2_says ?q9kB ?q9kF ?q9kX ?q9kN ?q9kT ?q9kk ?q9kd ?q9k0 ?q9k1 ?_; (case q9kB => k_asm); (case q9kF => k_asm); (case q9kX => assumption); (case q9kT => k_asm); (case q9kk => rfl); (case q9k0 => decide); (case q9k1 => decide); (case q9kd => ktr_room); (case q9kN => k_asm)); intro _ _ _ _ _ _ _ _ _ _ _ _ _ _ _ _ _ _ _ _ _ _))
  (k_with "call ref" => (k_here; (with_reducible show wpAny _ _ (call (Value.ref 158) [Value.ref _, Value.int _ _]) _ _ _); k_dflt (refine' more_says ?q9kB ?q9kF ?q9kX ?q9kN ?q9kT ?q9kk ?q9kne ?q9kd ?q9ki ?q9k0 ?q9kl ?q9ks ?q9kR ?_; (case q9kB => k_asm); (case q9kF => k_asm); (case q9kX => assumption); (case q9kT => k_asm); (case q9kk => rfl); (case q9kN => exact news_more (by k_asm)); (case q9ki => assumption); (case q9k0 => decide); (case q9kl => decide); (case q9ks => decide); (case q9kR => assumption); (case q9kd => ktr_room); (case q9kne => k_all)); intro _ _ _ _ _ N9; (replace N9 := news_more' N9); revert N9; intro _))
  (k_with "call ref" => (k_here; (with_reducible show wpAny _ _ (call (Value.ref 165) [Value.ref _, Value.int _ _]) _ _ _); k_dflt (refine' less_says ?q9kB ?q9kF ?q9kX ?q9kN ?q9kT ?q9kk ?q9kne ?q9kn2 ?q9kse ?q9kd ?q9ki ?q9kj ?q9k0 ?q9kl ?q9ks ?q9ke ?q9kR ?_; (case q9kB => k_asm); (case q9kF => k_asm); (case q9kX => assumption); (case q9kT => k_asm); (case q9kk => rfl); (case q9kN => exact news_less (by k_asm)); (case q9ki => assumption); (case q9kj => assumption); (case q9k0 => decide); (case q9kl => decide); (case q9ks => decide); (case q9ke => rfl); (case q9kR => assumption); (case q9kd => ktr_room); (case q9kne => k_all); (case q9kn2 => k_all); (case q9kse => k_ne)); intro _ _ _ _ _ _ _ N9; (replace N9 := news_less' N9); revert N9; intro _))
  (k_with "call type:range" => (k_here; (with_unfolding_all (refine' range1_rows ?q9F ?q9N ?_; (case q9F => k_asm); (case q9N => k_asm))); intro _ _ _ _ _ _ _ _ _))
  revert X; k_fill; intro X
  refine wpAny_call ?_
  k_dflt ktr_enter
  have R1 : RowIs (hd.heap_39 w.params) (([113, 113] : List Int).getD (Int.toNat 1) 0) 113 113 0 := rowIs_all w.params (113, 113, 113, 0) (by decide)
  k_steps
  rename_i g9 L9 h9 FG9 B9 X9 T9 bA bdA stA seA hh1 hh2 tt1 tt2 vsA usA n1 n2 h5 tk5 iv iu al lb ls le h6 F8 N8 h11 tk11 ta tb tc R F11 N11 kp
  have al9 := al
  simp only [AllLt] at al9
  obtain ⟨al1, al2⟩ := al9
  have as : ∀ p ∈ news, p.1 ≠ stA := tail_ne al2 (by omega)
  have ae : ∀ p ∈ news, p.1 ≠ seA := tail_ne al2 (by omega)
  clear N8 F8 kp
  refine my_range (L := L9) (n := 4) [] _ (fun _ => FI src stA seA bA bdA n n1 n2 hh1 hh2 tt1 tt2 news) rfl rfl R (by decide) rfl F11 (news_less' N11) (fun p hp => hp) ⟨_, _, _, _, _, _, rfl, iv, iu⟩ ?_ ?_
  · rintro i nx t u h tk own hi hoff ⟨d, x, td, tx, vs, us, rfl, hvs, hus⟩ F' N'
    simp only [List.cons_append] at N'
    have o1 : ∀ p ∈ own, p.1 ≠ src := fun p hp => hoff p hp _ (by simp)
    have o2 : ∀ p ∈ own, p.1 ≠ stA := fun p hp => hoff p hp _ (by simp)
    have o3 : ∀ p ∈ own, p.1 ≠ seA := fun p hp => hoff p hp _ (by simp)
    have t1 : ∀ p ∈ news ++ own, p.1 ≠ src := fun p hp => (List.mem_append.mp hp).elim (hne p) (o1 p)
    have t2 : ∀ p ∈ news ++ own, p.1 ≠ stA := fun p hp => (List.mem_append.mp hp).elim (as p) (o2 p)
    have t3 : ∀ p ∈ news ++ own, p.1 ≠ seA := fun p hp => (List.mem_append.mp hp).elim (ae p) (o3 p)
    clear N11 F11
    (try k_fold)
    k_steps
    all_goals first
      | exact fi_turn (by assumption) (by assumption) hoff (by assumption) (by assumption) (fun y hy1 _ => if_neg hy1)
  · rintro nx u h tk ⟨d, x, td, tx, vs, us, rfl, hvs, hus⟩ F' N'
    clear N11 F11
    (try k_fold)
    k_steps
    all_goals first | exact ret _ _ (by assumption)
end Mine
end
section
open PySem PySem.W PyProof.Rows PySem.Calls
namespace Mine
theorem lt_ofN {k : Int} {n : Nat} (h0 : 0 ≤ k) (h : k.toNat < n) : k < n := by omega
theorem set_same {α : Type} {x : α} : ∀ {l : List α} {k : Nat}, l[k]? = some x → l.set k x = l
  | [], _, h => by simp at h
  | a :: r, 0, h => by simp at h; rw [h]; rfl
  | a :: r, k + 1, h => by
    have := set_same (l := r) (k := k) (by simpa using h)
    show a :: r.set k x = a :: r
    rw [this]
theorem nodup_put {α : Type} {x : α} : ∀ {l : List α} {k : Nat}, l.Nodup → x ∉ l → (l.set k x).Nodup
  | [], _, _, _ => by simp
  | a :: r, 0, h, hx => by
    simp only [List.set_cons_zero, List.nodup_cons, List.mem_cons, not_or] at h hx ⊢
    exact ⟨hx.2, h.2⟩
  | a :: r, k + 1, h, hx => by
    simp only [List.set_cons_succ, List.nodup_cons, List.mem_cons, not_or] at h hx ⊢
    refine ⟨fun hm => ?_, nodup_put h.2 hx.2⟩
    rcases List.mem_or_eq_of_mem_set hm with hm | hm
    · exact h.1 hm
    · exact hx.1 hm.symm
theorem upd_inner {T : List (Addr × Obj)} {e e' : Ent} (hq : e'.q = e.q) (hT : ∀ p ∈ T, p.1 ≠ e.q) : ∀ {es : List Ent} {k : Nat}, es[k]? = some e → (eQ es).Nodup → Upd e.q (entObj e) (entObj e') (inner es ++ T) (inner (es.set k e') ++ T)
  | [], _, h, _ => by simp at h
  | x :: r, 0, h, hn => by
    have h' : x = e := by simpa using h
    subst h'
    have hn' : x.q ∉ eQ r ∧ (eQ r).Nodup := List.nodup_cons.mp hn
    show Upd x.q (entObj x) (entObj e') ((x.q, entObj x) :: (inner r ++ T)) ((e'.q, entObj e') :: (inner r ++ T))
    rw [hq]
    refine .head fun p hp hpe => ?_
    rcases List.mem_append.mp hp with hp | hp
    · exact hn'.1 (hpe ▸ inner_q hp)
    · exact hT p hp hpe
  | x :: r, k + 1, h, hn => by
    have hn' : x.q ∉ eQ r ∧ (eQ r).Nodup := List.nodup_cons.mp hn
    have h' : r[k]? = some e := by simpa using h
    show Upd e.q (entObj e) (entObj e') ((x.q, entObj x) :: (inner r ++ T)) ((x.q, entObj x) :: (inner (r.set k e') ++ T))
    refine .tail (fun hxe => hn'.1 ?_) (upd_inner hq hT h' hn'.2)
    show x.q ∈ eQ r
    have hxe' : x.q = e.q := hxe
    rw [hxe']
    exact List.mem_map.mpr ⟨e, List.mem_of_getElem? h', rfl⟩
theorem refs_get {es : List Ent} {k : Nat} {e : Ent} (h : es[k]? = some e) : (refs es)[k]? = some (.ref e.q) := by
  unfold refs; rw [List.getElem?_map, h]; rfl
theorem eA_get {es : List Ent} {k : Nat} {e : Ent} (h : es[k]? = some e) : (eA es)[k]? = some e.a := by
  unfold eA; rw [List.getElem?_map, h]; rfl
theorem eB_get {es : List Ent} {k : Nat} {e : Ent} (h : es[k]? = some e) : (eB es)[k]? = some e.b := by
  unfold eB; rw [List.getElem?_map, h]; rfl
theorem eQ_get {es : List Ent} {k : Nat} {e : Ent} (h : es[k]? = some e) : (eQ es)[k]? = some e.q := by
  unfold eQ; rw [List.getElem?_map, h]; rfl
theorem eA_set {es : List Ent} {k : Nat} {e : Ent} : eA (es.set k e) = (eA es).set k e.a := by unfold eA; rw [List.map_set]
theorem eB_set {es : List Ent} {k : Nat} {e : Ent} : eB (es.set k e) = (eB es).set k e.b := by unfold eB; rw [List.map_set]
theorem eQ_set {es : List Ent} {k : Nat} {e : Ent} : eQ (es.set k e) = (eQ es).set k e.q := by unfold eQ; rw [List.map_set]
theorem refs_set {es : List Ent} {k : Nat} {e : Ent} : refs (es.set k e) = (refs es).set k (.ref e.q) := by unfold refs; rw [List.map_set]
theorem getD_of {l : List Int} {k : Nat} {x : Int} (h : l[k]? = some x) : l.getD k 0 = x := by rw [List.getD_eq_getElem?_getD, h]; rfl
theorem eA_len {es : List Ent} : (eA es).length = es.length := List.length_map _
theorem eB_len {es : List Ent} : (eB es).length = es.length := List.length_map _
section
variable {w : World} {A : Around} {E : Value → Shared → Prop} {s : Shared} {h₀ : Heap} {L : Addr} {m : Str → Option Value} {src st se b bd due rd : Addr} {so o1 o2 o3 o4 o6 : Obj} {es : List Ent} {T news : List (Addr × Obj)} {n3 : Nat} {e : Ent} {k : Int} {u : Tok}
theorem len_due {prog : Program} {Q : Value → Shared → Prop} (N : News h₀ L s.heap news) (hm : (due, listOf (refs es).toArray n3) ∈ news) (hl : es.length ≤ 5) (h : Q (.int (es.length : Nat) (s.toks + 1)) { s with toks := s.toks + 1 + 1 }) :
    wpAny (model prog w) A (call (.builtin "len") [.ref due]) Q E s := by
  have hl' : s.heap.IsList due (refs es).toArray := ⟨_, (N _ hm).1, rfl, n3, rfl⟩
  have hs : (refs es).toArray.size = es.length := by rw [List.size_toArray]; exact List.length_map _
  refine Calls.call_len_list hl' (by rw [hs]; omega) ?_
  rw [hs]; exact h
theorem item_due {prog : Program} {Q : Value → Shared → Prop} {value slice : PySem.Expr} (N : News h₀ L s.heap news) (hm : (due, listOf (refs es).toArray n3) ∈ news) (h0 : 0 ≤ k) (hfit : k < 2 ^ 63) (he : es[k.toNat]? = some e) (h : Q (.ref e.q) s)
    (hs : subscripted slice false (.ref due) (.int k u) = operate [.ref due, .int k u] (getItem (.ref due) (.int k u)) := by with_unfolding_all rfl) : wpAny (model prog w) A (subscriptTail value slice (.ref due) (.int k u)) Q E s :=
  item_made N hm h0 hfit (refs_get he) h hs
theorem item_ent0 {prog : Program} {Q : Value → Shared → Prop} {value slice : PySem.Expr} (N : News h₀ L s.heap news) (hm : (e.q, entObj e) ∈ news) (h : Q (.int e.a e.t1) s)
    (hs : subscripted slice false (.ref e.q) (.int 0 u) = operate [.ref e.q, .int 0 u] (getItem (.ref e.q) (.int 0 u)) := by with_unfolding_all rfl) : wpAny (model prog w) A (subscriptTail value slice (.ref e.q) (.int 0 u)) Q E s :=
  item_made (vs := [.int e.a e.t1, .int e.b e.t2]) N hm (by decide) (by decide) rfl h hs
theorem item_ent1 {prog : Program} {Q : Value → Shared → Prop} {value slice : PySem.Expr} (N : News h₀ L s.heap news) (hm : (e.q, entObj e) ∈ news) (h : Q (.int e.b e.t2) s)
    (hs : subscripted slice false (.ref e.q) (.int 1 u) = operate [.ref e.q, .int 1 u] (getItem (.ref e.q) (.int 1 u)) := by with_unfolding_all rfl) : wpAny (model prog w) A (subscriptTail value slice (.ref e.q) (.int 1 u)) Q E s :=
  item_made (vs := [.int e.a e.t1, .int e.b e.t2]) N hm (by decide) (by decide) rfl h hs
theorem ent_mem {j : Nat} (he : es[j]? = some e) (hs : ∀ p ∈ inner es, p ∈ news) : (e.q, entObj e) ∈ news :=
  hs _ (List.mem_map.mpr ⟨e, List.mem_of_getElem? he, rfl⟩)
theorem set_ent {prog : Program} {Q : Unit → Shared → Prop} {j : Nat} {z : Int} {tz t : Tok} (F : Fr h₀ L s.heap m) (S : Sy src st se b bd due rd T (eQ es)) (N : News h₀ L s.heap (led src st se b bd due rd so o1 o2 o3 o4 (listOf (refs es).toArray n3) o6 es T)) (he : es[j]? = some e)
    (h : ∀ h' es' e', Fr h₀ L h' m → Sy src st se b bd due rd T (eQ es') → News h₀ L h' (led src st se b bd due rd so o1 o2 o3 o4 (listOf (refs es').toArray n3) o6 es' T) → es'[j]? = some e' → e'.a = z → e'.b = e.b → es'.length = es.length → eA es' = (eA es).set j e'.a → eB es' = eB es →
      Q () { s with heap := h' }) : wpAny (model prog w) A (setItem (.ref e.q) (.int 0 t) (.int z tz)) Q E s := by
  have hlt : j < es.length := (List.getElem?_eq_some_iff.mp he).1
  have hmem : e.q ∈ eQ es := List.mem_map.mpr ⟨e, List.mem_of_getElem? he, rfl⟩
  have nd := S.nd
  have off := S.off e.q (by simp [hmem])
  simp only [List.nodup_cons, List.mem_cons, not_or] at nd
  let e' : Ent := ⟨e.q, z, e.b, tz, e.t2, e.k⟩
  have hq : eQ (es.set j e') = eQ es := by rw [eQ_set]; exact set_same (x := e.q) (eQ_get he)
  have hr : refs (es.set j e') = refs es := by rw [refs_set]; exact set_same (x := Value.ref e.q) (refs_get he)
  refine set_any (vs := [.int e.a e.t1, .int e.b e.t2]) (n := e.k) (news' := led src st se b bd due rd so o1 o2 o3 o4 (listOf (refs es).toArray n3) o6 (es.set j e') T) F N ?_ (by decide) (by show (0 : Int) < 2; decide) (by decide) fun h' F' N' => ?_
  · refine .tail (fun x => nd.1.2.2.2 (by have x' : src = e.q := x; rw [x']; exact hmem)) (.tail (fun x => nd.2.1.2.2 (by have x' : st = e.q := x; rw [x']; exact hmem)) (.tail (fun x => nd.2.2.1.2 (by have x' : se = e.q := x; rw [x']; exact hmem)) (.tail off.1 (.tail off.2.1 (.tail (fun x => nd.2.2.2.1 (by have x' : due = e.q := x; rw [x']; exact hmem)) (.tail off.2.2.1 ?_))))))
    exact upd_inner (e := e) (e' := e') rfl off.2.2.2 he nd.2.2.2.2
  · refine h h' (es.set j e') e' F' (by rw [hq]; exact S) (by rw [hr]; exact N') (List.getElem?_set_self hlt) rfl rfl (by simp) (by rw [eA_set]) ?_
    rw [eB_set]; exact set_same (x := e.b) (eB_get he)
theorem set_due {prog : Program} {Q : Unit → Shared → Prop} {q' : Addr} {x y : Int} {t t1 t2 : Tok} {c : Nat} (F : Fr h₀ L s.heap m) (S : Sy src st se b bd due rd T (eQ es)) (N : News h₀ L s.heap ((q', listOf #[.int x t1, .int y t2] c) :: led src st se b bd due rd so o1 o2 o3 o4 (listOf (refs es).toArray n3) o6 es T)) (he : es[k.toNat]? = some e) (h0 : 0 ≤ k) (hfit : k < 2 ^ 63)
    (l : @LT.lt Nat _ src q' ∧ @LT.lt Nat _ st q' ∧ @LT.lt Nat _ se q' ∧ @LT.lt Nat _ b q' ∧ @LT.lt Nat _ bd q' ∧ @LT.lt Nat _ due q' ∧ @LT.lt Nat _ rd q' ∧ AllLt q' (inner es ++ T))
    (h : ∀ h' es', Fr h₀ L h' m → Sy src st se b bd due rd T (eQ es') → News h₀ L h' (led src st se b bd due rd so o1 o2 o3 o4 (listOf (refs es').toArray n3) o6 es' T) → es'.length = es.length → eA es' = (eA es).set k.toNat x → eB es' = (eB es).set k.toNat y → (∀ a ∈ es', a ∈ es ∨ a.b = y) → (∀ a ∈ eQ es', a ∈ eQ es ∨ a = q') →
      Q () { s with heap := h' }) : wpAny (model prog w) A (setItem (.ref due) (.int k t) (.ref q')) Q E s := by
  have hlt : k.toNat < es.length := (List.getElem?_eq_some_iff.mp he).1
  have nd := S.nd
  have off := S.off
  simp only [List.nodup_cons, List.mem_cons, not_or] at nd
  obtain ⟨l1, l2, l3, l4, l5, l6, l7, l8⟩ := l
  have lall : ∀ p ∈ inner es ++ T, @LT.lt Nat _ p.1 q' := fun p hp => kst_ltOf l8 p hp
  have hqs : ∀ a ∈ eQ es, @LT.lt Nat _ a q' := by
    intro a ha
    obtain ⟨e, he, rfl⟩ := List.mem_map.mp ha
    exact lall (e.q, entObj e) (List.mem_append.mpr (.inl (List.mem_map.mpr ⟨e, he, rfl⟩)))
  have hnq : q' ∉ eQ es := fun hm => Nat.lt_irrefl _ (hqs _ hm)
  let e' : Ent := ⟨q', x, y, t1, t2, c⟩
  have hin : ∀ a ∈ eQ (es.set k.toNat e'), a ∈ eQ es ∨ a = q' := by
    intro a ha
    rw [eQ_set] at ha
    exact List.mem_or_eq_of_mem_set ha
  have S' : Sy src st se b bd due rd T (eQ (es.set k.toNat e')) := by
    refine ⟨?_, ?_⟩
    · have nq : ∀ a, @LT.lt Nat _ a q' → a ∉ eQ es → a ∉ eQ (es.set k.toNat e') := fun a h1 h2 h3 => (hin a h3).elim h2 fun q => Nat.ne_of_lt h1 q
      simp only [List.nodup_cons, List.mem_cons, not_or]
      refine ⟨⟨nd.1.1, nd.1.2.1, nd.1.2.2.1, nq _ l1 nd.1.2.2.2⟩, ⟨nd.2.1.1, nd.2.1.2.1, nq _ l2 nd.2.1.2.2⟩, ⟨nd.2.2.1.1, nq _ l3 nd.2.2.1.2⟩, nq _ l6 nd.2.2.2.1, ?_⟩
      rw [eQ_set]
      exact nodup_put nd.2.2.2.2 hnq
    · intro a ha
      have ha' : a ∈ (src :: st :: se :: due :: eQ es) ∨ a = q' := by
        simp only [List.mem_cons] at ha ⊢
        rcases ha with h | h | h | h | h
        · simp [h]
        · simp [h]
        · simp [h]
        · simp [h]
        · rcases hin a h with h | h <;> simp [h]
      rcases ha' with ha' | rfl
      · exact off a ha'
      · exact ⟨Nat.ne_of_lt l4, Nat.ne_of_lt l5, Nat.ne_of_lt l7, fun p hp => Nat.ne_of_lt (lall p (List.mem_append.mpr (.inr hp)))⟩
  have tls := S.tail
  have ne := S.ne
  refine set_any (vs := refs es) (n := n3) (news' := (q', listOf #[.int x t1, .int y t2] c) :: led src st se b bd due rd so o1 o2 o3 o4 (listOf ((refs es).set k.toNat (.ref q')).toArray n3) o6 es T) F N ?_ h0 (by rw [refs, List.length_map]; exact lt_ofN h0 hlt) hfit fun h' F' N' => ?_
  · refine .tail (Nat.ne_of_gt l6) (.tail ne.2.2.1 (.tail ne.2.2.2.2.1 (.tail ne.2.2.2.2.2.1 (.tail (off due (by simp)).1 (.tail (off due (by simp)).2.1 (.head ?_))))))
    intro p hp
    rcases List.mem_cons.mp hp with rfl | hp
    · exact (off due (by simp)).2.2.1
    · exact tls.2.2.2 p hp
  · refine h h' (es.set k.toNat e') F' S' ?_ (by simp) (by rw [eA_set]) (by rw [eB_set]) ?_ hin
    · refine news_sub N' fun p hp => ?_
      have hi : ∀ p ∈ inner (es.set k.toNat e'), p ∈ inner es ∨ p = (q', listOf #[.int x t1, .int y t2] c) := by
        intro p hp
        obtain ⟨a, ha, rfl⟩ := List.mem_map.mp hp
        rcases List.mem_or_eq_of_mem_set ha with ha | ha
        · exact .inl (List.mem_map.mpr ⟨a, ha, rfl⟩)
        · exact .inr (by rw [ha])
      rw [refs_set] at hp
      simp only [led, List.mem_cons, List.mem_append] at hp ⊢
      rcases hp with h | h | h | h | h | h | h | h | h
      · simp [h]
      · simp [h]
      · simp [h]
      · simp [h]
      · simp [h]
      · simp [h, e']
      · simp [h]
      · rcases hi p h with h | h
        · simp [h]
        · simp [h]
      · simp [h]
    · intro a ha
      rcases List.mem_or_eq_of_mem_set ha with ha | ha
      · exact .inl ha
      · exact .inr (by rw [ha])
end
section
variable {prog : Program} {w : World} {A : Around} {E : Value → Shared → Prop} {s : Shared} {h₀ : Heap} {L rd : Addr} {news tl : List (Addr × Obj)} {o : Obj} {kvs : List (Int × Value)} {Q : Value → Shared → Prop} {k : Int} {u : Tok}
theorem at_key (h : k ∈ kvs.map (·.1)) : (valueAt kvs k).isSome = true := by
  rw [valueAt_isSome_eq_any, List.any_eq_true]
  obtain ⟨p, hp, e⟩ := List.mem_map.mp h
  exact ⟨p, hp, decide_eq_true e⟩
theorem notin_rows (N : News h₀ L s.heap news) (hp : (rd, o) ∈ news) (hod : o.IsDictOf (PySem.intKind prog w) kvs) (lo : (rd == sysModules) = false) (hk : kvs.map (·.1) = rowKeys)
    (h1 : k ∈ rowKeys → Q (.bool false) { s with toks := s.toks + 1 }) (h2 : k ∉ rowKeys → Q (.bool true) { s with toks := s.toks + 1 }) : wpAny (model prog w) A (compareOp .NotIn (.int k u) (.ref rd)) Q E s := by
  by_cases h : k ∈ rowKeys
  · exact kdg_notin (knd := PySem.intKind prog w) N hp hod lo (intKind_is _ _ _ _) true (at_key (by rw [hk]; exact h)) (h1 h)
  · exact kdg_notin (knd := PySem.intKind prog w) N hp hod lo (intKind_is _ _ _ _) false (by rw [valueAt_none_of_not_mem (by rw [hk]; exact h)]; rfl) (h2 h)
theorem row_at {N : List (Addr × Obj)} {rs : List (Int × Int × Int × Int)} (x : RowsIn N kvs rs) (h : k ∈ rs.map (·.1)) : ∃ a t1 t2 t3 r, r ∈ rs ∧ r.1 = k ∧ valueAt kvs k = some (.ref a) ∧ (a, tupObj r.2 t1 t2 t3) ∈ N := by
  induction x with
  | nil => simp at h
  | @cons a t1 t2 t3 r kvs rs hm _ ih =>
    by_cases e : r.1 = k
    · exact ⟨a, t1, t2, t3, r, .head _, e, by unfold valueAt; simp [e], hm⟩
    · have h' : k ∈ rs.map (·.1) := by
        rcases List.mem_cons.mp h with h | h
        · exact absurd h.symm e
        · exact h
      obtain ⟨a', u1, u2, u3, r', hr, he, hv, hm'⟩ := ih h'
      refine ⟨a', u1, u2, u3, r', .tail _ hr, he, ?_, hm'⟩
      unfold valueAt at hv ⊢
      rw [List.find?_cons_of_neg (by simpa using e)]
      exact hv
theorem item_row {value slice : PySem.Expr} (N : News h₀ L s.heap news) (hp : (rd, o) ∈ news) (hod : o.IsDictOf (PySem.intKind prog w) kvs) (hr : RowsIn tl kvs lawRows) (hs : ∀ p ∈ tl, p ∈ news) (hk : k ∈ rowKeys)
    (h : ∀ a t1 t2 t3 r, r ∈ lawRows → r.1 = k → News h₀ L s.heap ((a, tupObj r.2 t1 t2 t3) :: news) → Q (.ref a) { s with toks := s.toks + 1 })
    (hx : subscripted slice false (.ref rd) (.int k u) = operate [.ref rd, .int k u] (getItem (.ref rd) (.int k u)) := by with_unfolding_all rfl) (hg : ∀ r, letTemporaryGo value (.ref rd) r = pure () := by intro _; with_unfolding_all rfl) : wpAny (model prog w) A (subscriptTail value slice (.ref rd) (.int k u)) Q E s := by
  obtain ⟨a, t1, t2, t3, r, h1, h2, h3, h4⟩ := row_at hr hk
  refine kda_item (knd := PySem.intKind prog w) N hp hod (intKind_is _ _ _ _) h3 (h a t1 t2 t3 r h1 h2 fun p hp => ?_) hx hg
  rcases List.mem_cons.mp hp with rfl | hp
  · exact N _ (hs _ h4)
  · exact N p hp
end
theorem rows_flag : ∀ r ∈ lawRows, r.2.2.2 = 0 ∨ r.2.2.2 = 1 := by decide
end Mine
end
section
open PySem PySem.W PyProof.Rows PySem.Calls
namespace Mine
theorem row_is {P : Params} {r : Int × Int × Int × Int} (h : r ∈ lawRows) : RowIs (hd.heap_39 P) r.1 r.2.1 r.2.2.1 r.2.2.2 := rowIs_all P r h
theorem flip_set {ms : List Int} {k : Nat} {b f : Int} (h : ms[k]? = some b) (hb : b = 0 ∨ b = 1) (hf : f = 0 ∨ f = 1) : (if f = 1 then ms.set k (1 - ms.getD k 0) else ms) = ms.set k ((b + f).fmod 2) := by
  have hg : ms.getD k 0 = b := getD_of h
  rw [hg]
  rcases hb with rfl | rfl <;> rcases hf with rfl | rfl
  · exact (set_same h).symm
  · rfl
  · exact (set_same h).symm
  · rfl
section
variable {w : World} {p : Program} {loose : List Str} {mean : ExcName → Option Value} {mg mb : Str → Option Value}
    {dp un : Nat} {gd : Option (List Code)} {cn : Str} {cs : Scope} {a : Addr} {ccd : Value} {cl : List (Str × Addr)} {outer : List Env} {A₀ : Around} {base h₀ : Heap} {L : Addr} {m : Str → Option Value}
    {s : Shared} {Q E : Value → Shared → Prop} {src st se b bd due rd : Addr} {so o1 o2 o3 o4 o5 o6 : Obj} {es : List Ent} {T : List (Addr × Obj)}
theorem take_at {d x top : Int} {td tx tt : Tok} {n : Nat} (B : Below A₀ base outer h₀) (F : Fr h₀ L s.heap m) (X : (hd.heap_39 w.params).In h₀)
    (N : News h₀ L s.heap (led src st se b bd due rd (listOf #[.int d td, .int x tx] n) o1 o2 o3 o4 o5 o6 es T)) (Tp : Top p loose mean mg mb h₀)
    (hk : cs.kind = .function) (S : Sy src st se b bd due rd T (eQ es)) (h0 : 0 < top) (htt : top < 1000) (hdp : dp + 5 < recursionLimit) (hu : un + 100 < cLine)
    (ret : ∀ (v : Int) (t : Tok) (d' x' : Int) (td' tx' : Tok) (h' : Heap) (tk' : Nat), 0 ≤ v → v < top → Fr h₀ L h' m → News h₀ L h' (led src st se b bd due rd (listOf #[.int d' td', .int x' tx'] n) o1 o2 o3 o4 o5 o6 es T) → Q (.int v t) { s with heap := h', toks := tk' }) :
    wpAny (model PySem.Challenge.rw_nz0236_01.row.prog w) (ktrTop dp un gd cn cs L a ccd cl outer) (call (.ref 179) [.ref src, .int top tt]) Q E s :=
  take_says B F X N Tp hk S.offSrc h0 htt hdp hu ret
theorem take_atD {d x top : Int} {td tx tt : Tok} {n : Nat} {D : Addr × Obj} (B : Below A₀ base outer h₀) (F : Fr h₀ L s.heap m) (X : (hd.heap_39 w.params).In h₀)
    (N : News h₀ L s.heap (D :: led src st se b bd due rd (listOf #[.int d td, .int x tx] n) o1 o2 o3 o4 o5 o6 es T)) (Tp : Top p loose mean mg mb h₀)
    (hk : cs.kind = .function) (S : Sy src st se b bd due rd T (eQ es)) (hD : D.1 ≠ src) (h0 : 0 < top) (htt : top < 1000) (hdp : dp + 5 < recursionLimit) (hu : un + 100 < cLine)
    (ret : ∀ (v : Int) (t : Tok) (d' x' : Int) (td' tx' : Tok) (h' : Heap) (tk' : Nat), 0 ≤ v → v < top → Fr h₀ L h' m → News h₀ L h' (D :: led src st se b bd due rd (listOf #[.int d' td', .int x' tx'] n) o1 o2 o3 o4 o5 o6 es T) → Q (.int v t) { s with heap := h', toks := tk' }) :
    wpAny (model PySem.Challenge.rw_nz0236_01.row.prog w) (ktrTop dp un gd cn cs L a ccd cl outer) (call (.ref 179) [.ref src, .int top tt]) Q E s :=
  take_says B F X (news_swap N) Tp hk (fun p hp => by
    rcases List.mem_cons.mp hp with rfl | hp
    · exact hD
    · exact S.offSrc p hp) h0 htt hdp hu fun v t d' x' td' tx' h' tk' p0 p1 F' N' => ret v t d' x' td' tx' h' tk' p0 p1 F' (news_swap N')
theorem more_at {h1 h2 : Int} {t1 t2 : Tok} {vs : List Value} {n1 : Nat} {k : Int} {tk : Tok} {r : Int × Int × Int × Int} {e : Ent}
    (B : Below A₀ base outer h₀) (F : Fr h₀ L s.heap m) (X : (hd.heap_39 w.params).In h₀)
    (N : News h₀ L s.heap (led src st se b bd due rd so (listOf vs.toArray n1) o2 (instObj 147 bd) (binsDict h1 h2 t1 t2 st se) o5 o6 es T)) (Tp : Top p loose mean mg mb h₀)
    (hk : cs.kind = .function) (S : Sy src st se b bd due rd T (eQ es)) (hdp : dp + 5 < recursionLimit)
    (hi : IntsAre vs (eA es)) (h0 : 0 ≤ k) (he : es[k.toNat]? = some e) (hl : es.length ≤ 5) (hr : r ∈ lawRows) (hrk : r.1 = e.a)
    (ret : ∀ (vs' : List Value) (h' : Heap) (tk' : Nat), IntsAre vs' ((eA es).set k.toNat r.2.2.1) → Fr h₀ L h' m →
      News h₀ L h' (led src st se b bd due rd so (listOf vs'.toArray n1) o2 (instObj 147 bd) (binsDict h1 h2 t1 t2 st se) o5 o6 es T) → Q .none { s with heap := h', toks := tk' }) :
    wpAny (model PySem.Challenge.rw_nz0236_01.row.prog w) (ktrTop dp un gd cn cs L a ccd cl outer) (call (.ref 158) [.ref b, .int k tk]) Q E s := by
  have hlt : k.toNat < es.length := (List.getElem?_eq_some_iff.mp he).1
  have hg : (eA es).getD k.toNat 0 = e.a := getD_of (eA_get he)
  refine more_says (bd := bd) (st := st) (se := se) (h1 := h1) (h2 := h2) (t1 := t1) (t2 := t2) (n := n1) (news := (src, so) :: (se, o2) :: (due, o5) :: (rd, o6) :: (inner es ++ T)) (l := r.2.1) (mm := r.2.2.1) (e := r.2.2.2) B F X (news_sub N ?_) Tp hk ?_ hdp hi h0 (by rw [eA_len]; omega) (by rw [eA_len]; omega) (by rw [hg, ← hrk]; exact row_is hr) fun vs' h' tk' i' F' N' => ret vs' h' tk' i' F' (news_sub N' ?_)
  · intro p hp
    simp only [List.mem_cons, List.mem_append] at hp ⊢
    rcases hp with h | h | h | h | h | h | h | h | h <;> simp [h]
  · intro p hp
    refine S.offSt (so := so) (o2 := o2) (o3 := instObj 147 bd) (o4 := binsDict h1 h2 t1 t2 st se) (o5 := o5) (o6 := o6) p ?_
    simp only [List.mem_cons, List.mem_append] at hp ⊢
    rcases hp with h | h | h | h | h | h | h | h <;> simp [h]
  · intro p hp
    simp only [List.mem_cons, List.mem_append] at hp ⊢
    rcases hp with h | h | h | h | h | h | h | h | h <;> simp [h]
theorem less_at {h1 h2 : Int} {t1 t2 : Tok} {vs us : List Value} {n1 n2 : Nat} {k : Int} {tk : Tok} {r : Int × Int × Int × Int} {e : Ent}
    (B : Below A₀ base outer h₀) (F : Fr h₀ L s.heap m) (X : (hd.heap_39 w.params).In h₀)
    (N : News h₀ L s.heap (led src st se b bd due rd so (listOf vs.toArray n1) (listOf us.toArray n2) (instObj 147 bd) (binsDict h1 h2 t1 t2 st se) o5 o6 es T)) (Tp : Top p loose mean mg mb h₀)
    (hk : cs.kind = .function) (S : Sy src st se b bd due rd T (eQ es)) (hdp : dp + 5 < recursionLimit)
    (hi : IntsAre vs (eA es)) (hi' : IntsAre us (eB es)) (h0 : 0 ≤ k) (he : es[k.toNat]? = some e) (hl : es.length ≤ 5) (hb : e.b = 0 ∨ e.b = 1) (hr : r ∈ lawRows) (hrk : r.1 = e.a)
    (ret : ∀ (vs' us' : List Value) (h' : Heap) (tk' : Nat), IntsAre vs' ((eA es).set k.toNat r.2.1) → IntsAre us' ((eB es).set k.toNat ((e.b + r.2.2.2).fmod 2)) → Fr h₀ L h' m →
      News h₀ L h' (led src st se b bd due rd so (listOf vs'.toArray n1) (listOf us'.toArray n2) (instObj 147 bd) (binsDict h1 h2 t1 t2 st se) o5 o6 es T) → Q .none { s with heap := h', toks := tk' }) :
    wpAny (model PySem.Challenge.rw_nz0236_01.row.prog w) (ktrTop dp un gd cn cs L a ccd cl outer) (call (.ref 165) [.ref b, .int k tk]) Q E s := by
  have hlt : k.toNat < es.length := (List.getElem?_eq_some_iff.mp he).1
  have hg : (eA es).getD k.toNat 0 = e.a := getD_of (eA_get he)
  refine less_says (bd := bd) (st := st) (se := se) (h1 := h1) (h2 := h2) (t1 := t1) (t2 := t2) (n := n1) (n' := n2) (news := (src, so) :: (due, o5) :: (rd, o6) :: (inner es ++ T)) (l := r.2.1) (mm := r.2.2.1) (e := r.2.2.2) B F X (news_sub N ?_) Tp hk ?_ ?_ S.ne.2.2.2.1 hdp hi hi' h0 (by rw [eA_len]; omega) (by rw [eA_len]; omega) (by rw [eA_len, eB_len]) (by rw [hg, ← hrk]; exact row_is hr) fun vs' us' h' tk' i' j' F' N' => ret vs' us' h' tk' i' ?_ F' (news_sub N' ?_)
  · intro p hp
    simp only [List.mem_cons, List.mem_append] at hp ⊢
    rcases hp with h | h | h | h | h | h | h | h | h <;> simp [h]
  · intro p hp
    refine S.offSt (so := so) (o2 := listOf us.toArray n2) (o3 := instObj 147 bd) (o4 := binsDict h1 h2 t1 t2 st se) (o5 := o5) (o6 := o6) p ?_
    simp only [List.mem_cons, List.mem_append] at hp ⊢
    rcases hp with h | h | h | h | h | h | h <;> simp [h]
  · intro p hp
    refine S.offSe (so := so) (o1 := listOf vs.toArray n1) (o3 := instObj 147 bd) (o4 := binsDict h1 h2 t1 t2 st se) (o5 := o5) (o6 := o6) p ?_
    simp only [List.mem_cons, List.mem_append] at hp ⊢
    rcases hp with h | h | h | h | h | h | h <;> simp [h]
  · rw [flip_set (eB_get he) hb (rows_flag r hr)] at j'; exact j'
  · intro p hp
    simp only [List.mem_cons, List.mem_append] at hp ⊢
    rcases hp with h | h | h | h | h | h | h | h | h <;> simp [h]
theorem told_at {h1 h2 : Int} {t1 t2 : Tok} {vs us : List Value} {n1 n2 : Nat}
    (B : Below A₀ base outer h₀) (F : Fr h₀ L s.heap m) (X : (hd.heap_39 w.params).In h₀)
    (N : News h₀ L s.heap (led src st se b bd due rd so (listOf vs.toArray n1) (listOf us.toArray n2) (instObj 147 bd) (binsDict h1 h2 t1 t2 st se) o5 o6 es T)) (Tp : Top p loose mean mg mb h₀)
    (hk : cs.kind = .function) (hdp : dp + 5 < recursionLimit)
    (hi : IntsAre vs (eA es)) (hi' : IntsAre us (eB es)) (hl : es.length ≤ 5)
    (ret : ∀ (q : Addr) (ys : List Value) (nw : List (Addr × Obj)) (k : Nat) (h' : Heap) (tk' : Nat), W.DatAll nw ys (zipDat (eA es) (eB es)) → Fr h₀ L h' m →
      News h₀ L h' ((q, listOf ys.toArray k) :: led src st se b bd due rd so (listOf vs.toArray n1) (listOf us.toArray n2) (instObj 147 bd) (binsDict h1 h2 t1 t2 st se) o5 o6 es (T ++ nw)) → Q (.ref q) { s with heap := h', toks := tk' }) :
    wpAny (model PySem.Challenge.rw_nz0236_01.row.prog w) (ktrTop dp un gd cn cs L a ccd cl outer) (call (.ref 198) [.ref b]) Q E s := by
  refine told_says (bd := bd) (st := st) (se := se) (h1 := h1) (h2 := h2) (t1 := t1) (t2 := t2) (n := n1) (n' := n2) (news := (src, so) :: (due, o5) :: (rd, o6) :: (inner es ++ T)) B F X (news_sub N ?_) Tp hk hdp hi hi' (by rw [eA_len]; omega) (by rw [eA_len, eB_len]) fun q ys nw k h' tk' D' F' N' => ret q ys nw k h' tk' D' F' (news_sub N' ?_)
  · intro p hp
    simp only [List.mem_cons, List.mem_append] at hp ⊢
    rcases hp with h | h | h | h | h | h | h | h | h <;> simp [h]
  · intro p hp
    simp only [List.mem_cons, List.mem_append] at hp ⊢
    rcases hp with h | h | h | h | h | h | h | h | h | h | h <;> simp [h]
open Classical in
theorem ne_told {prog : Program} {A : Around} {q : Addr} {ys : List Value} {nw : List (Addr × Obj)} {k n3 : Nat} (N : News h₀ L s.heap ((q, listOf ys.toArray k) :: led src st se b bd due rd so o1 o2 o3 o4 (listOf (refs es).toArray n3) o6 es (T ++ nw))) (D : W.DatAll nw ys (zipDat (eA es) (eB es))) (hu : A.units + 64 < cLine)
    (h : Q (.bool false) s) : wpAny (model prog w) A (compareOp .NotEq (.ref q) (.ref due)) Q E s := by
  refine kqd_ne (xs := ys) (ys := refs es) (ds := zipDat (eA es) (eB es)) (es := zipDat (eA es) (eB es)) (n₁ := nw) (n₂ := inner es) N (.head _) rfl rfl D ?_ (.tail _ (.tail _ (.tail _ (.tail _ (.tail _ (.tail _ (.head _))))))) rfl rfl (dat_all fun p hp => hp) ?_ (dat_ok _ _) (dat_ok _ _) hu ?_
  · intro p hp
    simp [hp]
  · intro p hp
    simp [hp]
  · rw [decide_eq_true rfl]; exact h
end
end Mine
end
section
open PySem PySem.W PyProof.Rows PySem.Calls
namespace Mine
section
variable {w : World} {p : Program} {loose : List Str} {mean : ExcName → Option Value} {mg mb : Str → Option Value}
    {dp un : Nat} {gd : Option (List Code)} {cn : Str} {cs : Scope} {a : Addr} {ccd : Value} {cl : List (Str × Addr)} {outer : List Env} {A₀ : Around} {base h₀ : Heap} {L : Addr} {m : Str → Option Value}
    {s : Shared} {Q E : Value → Shared → Prop} {src st se b bd due rd : Addr} {so o1 o2 o3 o4 o5 o6 : Obj} {es : List Ent} {T : List (Addr × Obj)}
theorem inner_led : ∀ p ∈ inner es, p ∈ led src st se b bd due rd so o1 o2 o3 o4 o5 o6 es T := fun p hp => by
  simp [led, hp]
theorem tail_led {tl own : List (Addr × Obj)} : ∀ p ∈ tl, p ∈ led src st se b bd due rd so o1 o2 o3 o4 o5 o6 es (tl ++ own) := fun p hp => by
  simp [led, hp]
theorem take_due {d x : Int} {td tx tt : Tok} {n : Nat} (B : Below A₀ base outer h₀) (F : Fr h₀ L s.heap m) (X : (hd.heap_39 w.params).In h₀)
    (N : News h₀ L s.heap (led src st se b bd due rd (listOf #[.int d td, .int x tx] n) o1 o2 o3 o4 o5 o6 es T)) (Tp : Top p loose mean mg mb h₀)
    (hk : cs.kind = .function) (S : Sy src st se b bd due rd T (eQ es)) (hb : ∀ e ∈ es, e.b = 0 ∨ e.b = 1) (h1 : 1 ≤ es.length) (h5 : es.length ≤ 5) (hdp : dp + 5 < recursionLimit) (hu : un + 100 < cLine)
    (ret : ∀ (v : Int) (t : Tok) (e : Ent) (d' x' : Int) (td' tx' : Tok) (h' : Heap) (tk' : Nat), 0 ≤ v → v < 2 ^ 63 → es[v.toNat]? = some e → (e.b = 0 ∨ e.b = 1) → (v.toNat : Int) = v → v.toNat < es.length → Fr h₀ L h' m → News h₀ L h' (led src st se b bd due rd (listOf #[.int d' td', .int x' tx'] n) o1 o2 o3 o4 o5 o6 es T) → Q (.int v t) { s with heap := h', toks := tk' }) :
    wpAny (model PySem.Challenge.rw_nz0236_01.row.prog w) (ktrTop dp un gd cn cs L a ccd cl outer) (call (.ref 179) [.ref src, .int ((es.length : Nat) : Int) tt]) Q E s :=
  take_at B F X N Tp hk S (by omega) (by omega) hdp hu fun v t d' x' td' tx' h' tk' p0 p1 F' N' => by
    have hlt : v.toNat < es.length := by omega
    exact ret v t es[v.toNat] d' x' td' tx' h' tk' p0 (by omega) (List.getElem?_eq_getElem hlt) (hb _ (List.getElem_mem hlt)) (by omega) hlt F' N'
end
section
variable {prog : Program} {w : World} {A : Around} {E : Value → Shared → Prop} {s : Shared} {h₀ : Heap} {L : Addr} {m : Str → Option Value} {src st se b bd due rd : Addr} {so o1 o2 o3 o4 o5 o : Obj} {es : List Ent} {T tl own : List (Addr × Obj)} {n3 j : Nat} {e : Ent} {k : Int} {u : Tok} {Q : Value → Shared → Prop} {value slice : PySem.Expr} {kvs : List (Int × Value)}
theorem len_due' (S : Sy src st se b bd due rd T (eQ es)) (N : News h₀ L s.heap (led src st se b bd due rd so o1 o2 o3 o4 (listOf (refs es).toArray n3) o es T)) (hl : es.length ≤ 5) (h : Q (.int (es.length : Nat) (s.toks + 1)) { s with toks := s.toks + 1 + 1 }) :
    wpAny (model prog w) A (call (.builtin "len") [.ref due]) Q E s := len_due (n3 := n3) N (.tail _ (.tail _ (.tail _ (.tail _ (.tail _ (.head _)))))) hl h
theorem item_due' (S : Sy src st se b bd due rd T (eQ es)) (N : News h₀ L s.heap (led src st se b bd due rd so o1 o2 o3 o4 (listOf (refs es).toArray n3) o es T)) (h0 : 0 ≤ k) (hfit : k < 2 ^ 63) (he : es[k.toNat]? = some e) (h : Q (.ref e.q) s)
    (hs : subscripted slice false (.ref due) (.int k u) = operate [.ref due, .int k u] (getItem (.ref due) (.int k u)) := by with_unfolding_all rfl) : wpAny (model prog w) A (subscriptTail value slice (.ref due) (.int k u)) Q E s :=
  item_due (n3 := n3) N (.tail _ (.tail _ (.tail _ (.tail _ (.tail _ (.head _)))))) h0 hfit he h hs
theorem ent0' (S : Sy src st se b bd due rd T (eQ es)) (N : News h₀ L s.heap (led src st se b bd due rd so o1 o2 o3 o4 o5 o es T)) (he : es[j]? = some e) (h : Q (.int e.a e.t1) s)
    (hs : subscripted slice false (.ref e.q) (.int 0 u) = operate [.ref e.q, .int 0 u] (getItem (.ref e.q) (.int 0 u)) := by with_unfolding_all rfl) : wpAny (model prog w) A (subscriptTail value slice (.ref e.q) (.int 0 u)) Q E s :=
  item_ent0 N (ent_mem he inner_led) h hs
theorem ent1' (S : Sy src st se b bd due rd T (eQ es)) (N : News h₀ L s.heap (led src st se b bd due rd so o1 o2 o3 o4 o5 o es T)) (he : es[j]? = some e) (h : Q (.int e.b e.t2) s)
    (hs : subscripted slice false (.ref e.q) (.int 1 u) = operate [.ref e.q, .int 1 u] (getItem (.ref e.q) (.int 1 u)) := by with_unfolding_all rfl) : wpAny (model prog w) A (subscriptTail value slice (.ref e.q) (.int 1 u)) Q E s :=
  item_ent1 N (ent_mem he inner_led) h hs
theorem notin' (S : Sy src st se b bd due rd T (eQ es)) (N : News h₀ L s.heap (led src st se b bd due rd so o1 o2 o3 o4 o5 o es T)) (hod : o.IsDictOf (PySem.intKind prog w) kvs) (lo : (rd == sysModules) = false) (hk : kvs.map (·.1) = rowKeys)
    (h1 : k ∈ rowKeys → Q (.bool false) { s with toks := s.toks + 1 }) (h2 : k ∉ rowKeys → Q (.bool true) { s with toks := s.toks + 1 }) : wpAny (model prog w) A (compareOp .NotIn (.int k u) (.ref rd)) Q E s :=
  notin_rows N (.tail _ (.tail _ (.tail _ (.tail _ (.tail _ (.tail _ (.head _))))))) hod lo hk h1 h2
theorem sorted' (S : Sy src st se b bd due rd T (eQ es)) (N : News h₀ L s.heap (led src st se b bd due rd so o1 o2 o3 o4 o5 o es T)) (hh : A.handled = none) (F : Fr h₀ L s.heap m) (hod : o.IsDictOf (PySem.intKind prog w) kvs) (lo : (rd == sysModules) = false) (hk : kvs.map (·.1) = rowKeys)
    (h : ∀ D vs c h' tk, Fr h₀ L h' m → News h₀ L h' ((D, listOf vs.toArray c) :: led src st se b bd due rd so o1 o2 o3 o4 o5 o es T) → D ≠ src → IntsAre vs rowKeys → Q (.ref D) { s with heap := h', toks := tk }) :
    wpAny (model prog w) A (call (.builtin "sorted") [.ref rd]) Q E s :=
  sorted_rows hh F N (.tail _ (.tail _ (.tail _ (.tail _ (.tail _ (.tail _ (.head _))))))) hod lo hk fun D vs c h' tk F' N' l i => h D vs c h' tk F' N' (Nat.ne_of_gt (l (src, so) (.head _))) i
theorem len_rows' {D : Addr × Obj} (S : Sy src st se b bd due rd T (eQ es)) (N : News h₀ L s.heap (D :: led src st se b bd due rd so o1 o2 o3 o4 o5 o es T)) (hod : o.IsDictOf (PySem.intKind prog w) kvs) (lo : (rd == sysModules) = false) (hk : kvs.map (·.1) = rowKeys)
    (h : Q (.int 36 (s.toks + 1)) { s with toks := s.toks + 1 + 1 }) : wpAny (model prog w) A (call (.builtin "len") [.ref rd]) Q E s := len_rows N (.tail _ (.tail _ (.tail _ (.tail _ (.tail _ (.tail _ (.tail _ (.head _)))))))) hod lo hk h
theorem item_row' (S : Sy src st se b bd due rd (tl ++ own) (eQ es)) (N : News h₀ L s.heap (led src st se b bd due rd so o1 o2 o3 o4 o5 o es (tl ++ own))) (hod : o.IsDictOf (PySem.intKind prog w) kvs) (hr : RowsIn tl kvs lawRows) (hk : k ∈ rowKeys)
    (h : ∀ a t1 t2 t3 r, r ∈ lawRows → r.1 = k → News h₀ L s.heap ((a, tupObj r.2 t1 t2 t3) :: led src st se b bd due rd so o1 o2 o3 o4 o5 o es (tl ++ own)) → Q (.ref a) { s with toks := s.toks + 1 })
    (hx : subscripted slice false (.ref rd) (.int k u) = operate [.ref rd, .int k u] (getItem (.ref rd) (.int k u)) := by with_unfolding_all rfl) (hg : ∀ r, letTemporaryGo value (.ref rd) r = pure () := by intro _; with_unfolding_all rfl) : wpAny (model prog w) A (subscriptTail value slice (.ref rd) (.int k u)) Q E s :=
  item_row N (.tail _ (.tail _ (.tail _ (.tail _ (.tail _ (.tail _ (.head _))))))) hod hr tail_led hk h hx hg
end
section
variable {prog : Program} {w : World} {A : Around} {E : Value → Shared → Prop} {s : Shared} {h₀ : Heap} {L : Addr} {m : Str → Option Value} {src st se b bd due rd : Addr} {so o1 o2 o3 o4 o5 o6 : Obj} {es : List Ent} {T : List (Addr × Obj)} {n3 : Nat} {e : Ent}
theorem item_key' {Q : Value → Shared → Prop} {value slice : PySem.Expr} {k : Int} {u : Tok} {D : Addr} {vs : List Value} {c : Nat} (N : News h₀ L s.heap ((D, listOf vs.toArray c) :: led src st se b bd due rd so o1 o2 o3 o4 o5 o6 es T)) (S : Sy src st se b bd due rd T (eQ es)) (hi : IntsAre vs rowKeys) (h0 : 0 ≤ k) (h1 : k < 36)
    (h : ∀ z t, z ∈ rowKeys → News h₀ L s.heap (led src st se b bd due rd so o1 o2 o3 o4 o5 o6 es T) → Q (.int z t) s)
    (hs : subscripted slice false (.ref D) (.int k u) = operate [.ref D, .int k u] (getItem (.ref D) (.int k u)) := by with_unfolding_all rfl) : wpAny (model prog w) A (subscriptTail value slice (.ref D) (.int k u)) Q E s :=
  item_key N (.head _) hi h0 h1 (fun z t hz => h z t hz (News.tail' N)) hs
theorem hb_same {es es' : List Ent} (h : eB es' = eB es) (hb : ∀ e ∈ es, e.b = 0 ∨ e.b = 1) : ∀ e ∈ es', e.b = 0 ∨ e.b = 1 := fun e he => by
  have hm : e.b ∈ eB es' := List.mem_map.mpr ⟨e, he, rfl⟩
  rw [h] at hm
  obtain ⟨e0, h0, h1⟩ := List.mem_map.mp hm
  rw [← h1]; exact hb e0 h0
theorem set_ent' {Q : Unit → Shared → Prop} {j : Nat} {z : Int} {tz t : Tok} {us : List Value} (F : Fr h₀ L s.heap m) (S : Sy src st se b bd due rd T (eQ es)) (N : News h₀ L s.heap (led src st se b bd due rd so o1 o2 o3 o4 (listOf (refs es).toArray n3) o6 es T)) (he : es[j]? = some e) (hb : ∀ e ∈ es, e.b = 0 ∨ e.b = 1) (iu : IntsAre us (eB es))
    (h : ∀ h' es' e', Fr h₀ L h' m → Sy src st se b bd due rd T (eQ es') → News h₀ L h' (led src st se b bd due rd so o1 o2 o3 o4 (listOf (refs es').toArray n3) o6 es' T) → es'[j]? = some e' → e'.a = z → es'.length = es.length → eA es' = (eA es).set j e'.a → (e'.b = 0 ∨ e'.b = 1) → (∀ e ∈ es', e.b = 0 ∨ e.b = 1) → IntsAre us (eB es') → j < es'.length →
      Q () { s with heap := h' }) : wpAny (model prog w) A (setItem (.ref e.q) (.int 0 t) (.int z tz)) Q E s :=
  set_ent F S N he fun h' es' e' F' S' N' he' hz hbe hl hA hB => h h' es' e' F' S' N' he' hz hl hA (hb_same hB hb e' (List.mem_of_getElem? he')) (hb_same hB hb) (by rw [hB]; exact iu) (List.getElem?_eq_some_iff.mp he').1
end
theorem set_st {prog : Program} {w : World} {A : Around} {E : Value → Shared → Prop} {s : Shared} {h₀ : Heap} {L : Addr} {m : Str → Option Value} {src st se b bd due rd : Addr} {so o2 o3 o4 o5 o6 : Obj} {es : List Ent} {T : List (Addr × Obj)} {n1 : Nat} {k z : Int} {t tz : Tok} {vs : List Value} {ns : List Int} {Q : Unit → Shared → Prop}
    (F : Fr h₀ L s.heap m) (S : Sy src st se b bd due rd T (eQ es)) (N : News h₀ L s.heap (led src st se b bd due rd so (listOf vs.toArray n1) o2 o3 o4 o5 o6 es T)) (hi : IntsAre vs ns) (hz : eA es = ns.set k.toNat z) (h0 : 0 ≤ k) (hfit : k < 2 ^ 63) (hlt : k.toNat < es.length)
    (h : ∀ h', Fr h₀ L h' m → News h₀ L h' (led src st se b bd due rd so (listOf (vs.set k.toNat (.int z tz)).toArray n1) o2 o3 o4 o5 o6 es T) → IntsAre (vs.set k.toNat (.int z tz)) (eA es) → Q () { s with heap := h' }) : wpAny (model prog w) A (setItem (.ref st) (.int k t) (.int z tz)) Q E s := by
  have hl : vs.length = es.length := by
    rw [hi.length, ← eA_len, hz, List.length_set]
  refine set_any (vs := vs) (n := n1) (news' := led src st se b bd due rd so (listOf (vs.set k.toNat (.int z tz)).toArray n1) o2 o3 o4 o5 o6 es T) F N (.tail S.ne.1 (.head fun p hp => ?_)) h0 (by rw [hl]; omega) hfit fun h' F' N' => h h' F' N' ?_
  · exact S.offSt (so := so) (o2 := o2) (o3 := o3) (o4 := o4) (o5 := o5) (o6 := o6) p (.tail _ hp)
  · rw [hz]; exact ints_set hi _
def LI (src st se b bd due rd : Addr) (o : Obj) (n : Nat) (h1 h2 : Int) (t1 t2 : Tok) (tl : List (Addr × Obj)) (nx : List (Addr × Obj)) : Prop :=
  ∃ (d x : Int) (td tx : Tok) (vs us : List Value) (n1 n2 n3 : Nat) (es : List Ent), nx = led src st se b bd due rd (listOf #[.int d td, .int x tx] n) (listOf vs.toArray n1) (listOf us.toArray n2) (instObj 147 bd) (binsDict h1 h2 t1 t2 st se) (listOf (refs es).toArray n3) o es tl ∧
    Sy src st se b bd due rd tl (eQ es) ∧ IntsAre vs (eA es) ∧ IntsAre us (eB es) ∧ 1 ≤ es.length ∧ es.length ≤ 5 ∧ ∀ e ∈ es, e.b = 0 ∨ e.b = 1
theorem li_turn {src st se b bd due rd q : Addr} {o oq : Obj} {n : Nat} {h1 h2 : Int} {t1 t2 : Tok} {tl own nw : List (Addr × Obj)} {h₀ h' : Heap} {L : Addr} {m' m₀ : Str → Option Value} {d x : Int} {td tx : Tok} {vs us : List Value} {m1 m2 m3 : Nat} {es es' : List Ent} {s₁ : Shared} {tk : Nat} {stored : List Str} {nm : Str} {p0 p1 p2 p3 p4 p5 p6 : Obj}
    (F : Fr h₀ L h' m') (N : News h₀ L h' ((q, oq) :: led src st se b bd due rd (listOf #[.int d td, .int x tx] n) (listOf vs.toArray m1) (listOf us.toArray m2) (instObj 147 bd) (binsDict h1 h2 t1 t2 st se) (listOf (refs es').toArray m3) o es' ((tl ++ own) ++ nw)))
    (S : Sy src st se b bd due rd (tl ++ own) (eQ es')) (hoff : OwnOff own ((led src st se b bd due rd p0 p1 p2 p3 p4 p5 p6 es tl).map (·.1))) (hv : IntsAre vs (eA es')) (hu : IntsAre us (eB es')) (hl1 : 1 ≤ es'.length) (hl5 : es'.length ≤ 5) (hb : ∀ e ∈ es', e.b = 0 ∨ e.b = 1) (hm : ∀ y, y ≠ nm → stored.contains y = false → m' y = m₀ y) :
    InvEndG h₀ L (fun m' nx' => LI src st se b bd due rd o n h1 h2 t1 t2 tl nx' ∧ ∀ y, y ≠ nm → stored.contains y = false → m' y = m₀ y) own s₁ { s₁ with heap := h', toks := tk } := by
  refine InvEndG.intro F N ⟨⟨d, x, td, tx, vs, us, m1, m2, m3, es', rfl, ⟨S.nd, fun a ha => ?_⟩, hv, hu, hl1, hl5, hb⟩, hm⟩ ?_ ?_ ?_
  · obtain ⟨k1, k2, k3, k4⟩ := S.off a ha
    exact ⟨k1, k2, k3, fun p hp => k4 p (List.mem_append.mpr (.inl hp))⟩
  · intro p hp a ha
    have hS : ∀ a ∈ (src :: st :: se :: due :: eQ es' : List Addr), p.1 ≠ a := fun a ha => (S.off a ha).2.2.2 p (List.mem_append.mpr (.inr hp))
    rw [led_map] at ha
    rw [led_map] at hoff
    simp only [List.mem_cons, List.mem_append] at ha
    rcases ha with h | h | h | h | h | h | h | h | h
    · exact hS a (by simp [h])
    · exact hS a (by simp [h])
    · exact hS a (by simp [h])
    · exact hoff p hp a (by simp [h])
    · exact hoff p hp a (by simp [h])
    · exact hS a (by simp [h])
    · exact hoff p hp a (by simp [h])
    · exact hS a (by simp [h])
    · exact hoff p hp a (by simp only [List.mem_cons, List.mem_append]; simp [h])
  · intro p hp
    simp only [led, List.mem_cons, List.mem_append] at hp ⊢
    rcases hp with h | h | h | h | h | h | h | h | h <;> simp [h]
  · intro p hp
    simp only [led, List.mem_cons, List.mem_append]
    simp [hp]
end Mine
end
section
open PySem PySem.W PyProof.Rows PySem.Calls
namespace Mine
local macro_rules | `(tactic| k_all) => `(tactic| assumption)
local macro_rules | `(tactic| walk_at $s:str) => `(tactic| k_extra $s)
def BI (src st se b bd due rd : Addr) (o : Obj) (n : Nat) (h1 h2 : Int) (t1 t2 : Tok) (tl : List (Addr × Obj)) (many i : Nat) (nx : List (Addr × Obj)) : Prop :=
  ∃ (d x : Int) (td tx : Tok) (vs us : List Value) (ns ms : List Int) (n1 n2 n3 : Nat) (es : List Ent), nx = led src st se b bd due rd (listOf #[.int d td, .int x tx] n) (listOf vs.toArray n1) (listOf us.toArray n2) (instObj 147 bd) (binsDict h1 h2 t1 t2 st se) (listOf (refs es).toArray n3) o es tl ∧
    Sy src st se b bd due rd tl (eQ es) ∧ IntsAre vs ns ∧ IntsAre us ms ∧ ns.length = many ∧ ms.length = many ∧ es.length = i ∧ eA es = ns.take i ∧ eB es = ms.take i ∧ ∀ e ∈ es, e.b = 0 ∨ e.b = 1
theorem bi_start {src st se b bd due rd : Addr} {o : Obj} {n : Nat} {h1 h2 : Int} {t1 t2 : Tok} {tl : List (Addr × Obj)} {k : Int} {d x : Int} {td tx : Tok} {vs us : List Value} {n1 n2 n3 : Nat} (hne : ∀ p ∈ (rd, o) :: tl, p.1 ≠ src) (iv : IntsAre vs (List.replicate k.toNat 0)) (iu : IntsAre us (List.replicate k.toNat 0))
    (al : AllLt bd ((src, listOf #[.int d td, .int x tx] n) :: (rd, o) :: tl)) (l1 : @LT.lt Nat _ bd b) (l2 : @LT.lt Nat _ b st) (l3 : @LT.lt Nat _ st se) (l4 : @LT.lt Nat _ se due) :
    BI src st se b bd due rd o n h1 h2 t1 t2 tl k.toNat 0 (led src st se b bd due rd (listOf #[.int d td, .int x tx] n) (listOf vs.toArray n1) (listOf us.toArray n2) (instObj 147 bd) (binsDict h1 h2 t1 t2 st se) (listOf (refs []).toArray n3) o [] tl) := by
  simp only [AllLt] at al
  obtain ⟨a1, a2, a3⟩ := al
  have h : ∀ p ∈ tl, @LT.lt Nat _ p.1 bd := fun p hp => of_allLt a3 p hp
  have e1 : @Ne Nat rd src := hne _ (.head _)
  refine ⟨d, x, td, tx, vs, us, _, _, n1, n2, n3, [], rfl, ⟨?_, ?_⟩, iv, iu, by simp, by simp, rfl, rfl, rfl, fun e he => nomatch he⟩
  · show List.Nodup [src, st, se, due]
    simp only [List.nodup_cons, List.mem_cons, List.not_mem_nil, or_false, not_or, List.nodup_nil, and_true, not_false_eq_true]
    refine ⟨⟨?_, ?_, ?_⟩, ⟨?_, ?_⟩, ?_⟩ <;> (refine neN ?_; omega)
  · intro a ha
    have ha' : a ∈ [src, st, se, due] := ha
    simp only [List.mem_cons, List.not_mem_nil, or_false] at ha'
    rcases ha' with rfl | rfl | rfl | rfl
    · exact ⟨by refine neN ?_; omega, by refine neN ?_; omega, e1, fun p hp => hne _ (.tail _ hp)⟩
    all_goals exact ⟨by refine neN ?_; omega, by refine neN ?_; omega, by refine neN ?_; omega, fun p hp => by have := h p hp; refine neN ?_; omega⟩
theorem take_set {ns : List Int} {i : Nat} {z : Int} (h : i < ns.length) : (ns.set i z).take (i + 1) = ns.take i ++ [z] := by
  rw [List.take_add_one, List.getElem?_set_self h, List.take_set_of_le (Nat.le_refl i)]
  rfl
theorem bi_turn {src st se b bd due rd q : Addr} {o : Obj} {n : Nat} {h1 h2 : Int} {t1 t2 : Tok} {tl own : List (Addr × Obj)} {many i : Nat} {h₀ h' : Heap} {L : Addr} {m' m₀ : Str → Option Value} {z v d x : Int} {tz tv td tx : Tok} {vs us : List Value} {ns ms : List Int} {m1 m2 m3 : Nat} {es : List Ent} {s₁ : Shared} {tk : Nat} {stored : List Str} {nm : Str}
    (F : Fr h₀ L h' m') (N : News h₀ L h' ((q, listOf #[.int z tz, .int v tv] 0) :: led src st se b bd due rd (listOf #[.int d td, .int x tx] n) (listOf vs.toArray m1) (listOf us.toArray m2) (instObj 147 bd) (binsDict h1 h2 t1 t2 st se) (listOf (List.toArray (refs es ++ [Value.ref q])) m3) o es (tl ++ own)))
    (l : @LT.lt Nat _ src q ∧ @LT.lt Nat _ st q ∧ @LT.lt Nat _ se q ∧ @LT.lt Nat _ b q ∧ @LT.lt Nat _ bd q ∧ @LT.lt Nat _ due q ∧ @LT.lt Nat _ rd q ∧ AllLt q (inner es ++ (tl ++ own)))
    (S : Sy src st se b bd due rd (tl ++ own) (eQ es)) {p0 p1 p2 p3 p4 p5 p6 : Obj} (hoff : OwnOff own ((led src st se b bd due rd p0 p1 p2 p3 p4 p5 p6 es tl).map (·.1))) (hv : IntsAre vs (ns.set (i : Int).toNat z)) (hu : IntsAre us (ms.set (i : Int).toNat v)) (hln : ns.length = many) (hlm : ms.length = many) (hle : es.length = i) (hi : i < many)
    (ea : eA es = ns.take i) (eb : eB es = ms.take i) (hb : ∀ e ∈ es, e.b = 0 ∨ e.b = 1) (v0 : 0 ≤ v) (v1 : v < 2) (hm : ∀ y, y ≠ nm → stored.contains y = false → m' y = m₀ y) :
    InvEndG h₀ L (fun m' nx' => BI src st se b bd due rd o n h1 h2 t1 t2 tl many (i + 1) nx' ∧ ∀ y, y ≠ nm → stored.contains y = false → m' y = m₀ y) own s₁ { s₁ with heap := h', toks := tk } := by
  have hin : (i : Int).toNat = i := Int.toNat_natCast i
  have hv01 : v = 0 ∨ v = 1 := by omega
  rw [hin] at hv hu
  obtain ⟨l1, l2, l3, l4, l5, l6, l7, l8⟩ := l
  have lall : ∀ p ∈ inner es ++ (tl ++ own), @LT.lt Nat _ p.1 q := fun p hp => of_allLt l8 p hp
  have hr : refs es ++ [Value.ref q] = refs (es ++ [⟨q, z, v, tz, tv, 0⟩]) := by
    unfold refs; simp
  have hI : inner (es ++ [⟨q, z, v, tz, tv, 0⟩]) = inner es ++ [(q, listOf #[.int z tz, .int v tv] 0)] := by unfold inner; simp
  have hQ : eQ (es ++ [⟨q, z, v, tz, tv, 0⟩]) = eQ es ++ [q] := by unfold eQ; simp
  rw [hr] at N
  have hqs : ∀ a ∈ eQ es, @LT.lt Nat _ a q := by
    intro a ha
    obtain ⟨e, he, rfl⟩ := List.mem_map.mp ha
    exact lall (e.q, entObj e) (List.mem_append.mpr (.inl (List.mem_map.mpr ⟨e, he, rfl⟩)))
  have S' : Sy src st se b bd due rd (tl ++ own) (eQ (es ++ [⟨q, z, v, tz, tv, 0⟩])) := by
    rw [hQ]
    refine ⟨?_, ?_⟩
    · have e : (src :: st :: se :: due :: (eQ es ++ [q])) = (src :: st :: se :: due :: eQ es) ++ [q] := rfl
      rw [e, List.nodup_append]
      refine ⟨S.nd, by simp, ?_⟩
      intro a ha c hc
      rw [List.mem_singleton.mp hc]
      simp only [List.mem_cons] at ha
      rcases ha with rfl | rfl | rfl | rfl | ha
      all_goals first | exact Nat.ne_of_lt (by assumption) | exact Nat.ne_of_lt (hqs _ ha)
    · intro a ha
      have ha' : a ∈ (src :: st :: se :: due :: eQ es) ∨ a = q := by
        simp only [List.mem_cons, List.mem_append, List.not_mem_nil, or_false] at ha ⊢
        rcases ha with h | h | h | h | h | h <;> simp [h]
      rcases ha' with ha' | rfl
      · exact S.off a ha'
      · exact ⟨Nat.ne_of_lt l4, Nat.ne_of_lt l5, Nat.ne_of_lt l7, fun p hp => Nat.ne_of_lt (lall p (List.mem_append.mpr (.inr hp)))⟩
  refine InvEndG.intro (nx := led src st se b bd due rd (listOf #[.int d td, .int x tx] n) (listOf vs.toArray m1) (listOf us.toArray m2) (instObj 147 bd) (binsDict h1 h2 t1 t2 st se) (listOf (refs (es ++ [⟨q, z, v, tz, tv, 0⟩])).toArray m3) o (es ++ [⟨q, z, v, tz, tv, 0⟩]) tl) F N ⟨?_, hm⟩ ?_ ?_ ?_
  · refine ⟨d, x, td, tx, _, _, _, _, m1, m2, m3, _, rfl, ⟨S'.nd, fun a ha => ?_⟩, hv, hu, by simp [hln], by simp [hlm], by simp [hle], ?_, ?_, ?_⟩
    · obtain ⟨k1, k2, k3, k4⟩ := S'.off a ha
      exact ⟨k1, k2, k3, fun p hp => k4 p (List.mem_append.mpr (.inl hp))⟩
    · rw [take_set (hln ▸ hi), ← ea]; simp [eA]
    · rw [take_set (hlm ▸ hi), ← eb]; simp [eB]
    · intro e he
      rcases List.mem_append.mp he with he | he
      · exact hb e he
      · rw [List.mem_singleton.mp he]
        exact hv01
  · intro p hp a ha
    have hS : ∀ a ∈ (src :: st :: se :: due :: eQ (es ++ [⟨q, z, v, tz, tv, 0⟩]) : List Addr), p.1 ≠ a := fun a ha => (S'.off a ha).2.2.2 p (List.mem_append.mpr (.inr hp))
    rw [led_map] at ha
    rw [led_map] at hoff
    simp only [List.mem_cons, List.mem_append] at ha
    rcases ha with h | h | h | h | h | h | h | h | h
    · exact hS a (by simp [h])
    · exact hS a (by simp [h])
    · exact hS a (by simp [h])
    · exact hoff p hp a (by simp [h])
    · exact hoff p hp a (by simp [h])
    · exact hS a (by simp [h])
    · exact hoff p hp a (by simp [h])
    · exact hS a (.tail _ (.tail _ (.tail _ (.tail _ h))))
    · exact hoff p hp a (by simp only [List.mem_cons, List.mem_append]; simp [h])
  · intro p hp
    rw [led, hI] at hp
    simp only [led, List.mem_cons, List.mem_append, List.not_mem_nil, or_false] at hp ⊢
    rcases hp with h | h | h | h | h | h | h | (h | h) | h <;> simp [h]
  · intro p hp
    simp only [led, List.mem_cons, List.mem_append]
    simp [hp]
local macro_rules | `(tactic| walk_at "pyIter ref") => `(tactic| (k_here; refine Hold.out ?_))
theorem built_says {w : World} {p : Program} {loose : List Str} {mean : ExcName → Option Value} {mg mb : Str → Option Value}
    {dp un : Nat} {gd : Option (List Code)} {cn : Str} {cs : Scope} {a : Addr} {ccd : Value} {cl : List (Str × Addr)} {outer : List Env} {A₀ : Around} {base h₀ : Heap} {L : Addr} {m : Str → Option Value}
    {tl : List (Addr × Obj)} {s : Shared} {Q E : Value → Shared → Prop} {src rd : Addr} {o : Obj} {kvs : List (Int × Value)} {d x : Int} {td tx : Tok} {n : Nat}
    (B : Below A₀ base outer h₀) (F : Fr h₀ L s.heap m) (X : (hd.heap_39 w.params).In h₀) (N : News h₀ L s.heap ((src, listOf #[.int d td, .int x tx] n) :: (rd, o) :: tl)) (T : Top p loose mean mg mb h₀)
    (hk : cs.kind = .function) (hdp : dp + 8 < recursionLimit) (hu : un + 200 < cLine)
    (hne : ∀ p ∈ (rd, o) :: tl, p.1 ≠ src) (hod : o.IsDictOf (PySem.intKind PySem.Challenge.rw_nz0236_01.row.prog w) kvs) (lo : (rd == sysModules) = false) (hr : RowsIn tl kvs lawRows)
    (ret : ∀ (tup b bd st se due : Addr) (h1 h2 : Int) (t1 t2 : Tok) (vs us : List Value) (n1 n2 n3 n4 : Nat) (d x : Int) (td tx : Tok) (es : List Ent) (h' : Heap) (tk' : Nat),
      Sy src st se b bd due rd tl (eQ es) → IntsAre vs (eA es) → IntsAre us (eB es) → 1 ≤ es.length → es.length ≤ 5 → (∀ e ∈ es, e.b = 0 ∨ e.b = 1) → Fr h₀ L h' m →
      News h₀ L h' ((tup, { cls := .type "tuple", data := .seq #[.ref b, .ref due] n4 }) :: led src st se b bd due rd (listOf #[.int d td, .int x tx] n) (listOf vs.toArray n1) (listOf us.toArray n2) (instObj 147 bd) (binsDict h1 h2 t1 t2 st se) (listOf (refs es).toArray n3) o es tl) → Q (.ref tup) { s with heap := h', toks := tk' }) :
    wpAny (model PySem.Challenge.rw_nz0236_01.row.prog w) (ktrTop dp un gd cn cs L a ccd cl outer) (call (.ref 193) [.ref src, .ref rd]) Q E s := by
  w_top off; k_with_none
  (k_with "call ref" => (k_here; (with_reducible show wpAny _ _ (call (Value.ref 179) [Value.ref _, Value.int _ _]) _ _ _); k_dflt (refine' take_says ?q9kB ?q9kF ?q9kX ?q9kN ?q9kT ?q9kk ?q9kne ?q9k0 ?q9kt ?q9kd ?q9ku ?_; (case q9kB => k_asm); (case q9kF => k_asm); (case q9kX => assumption); (case q9kT => k_asm); (case q9kk => rfl); (case q9k0 => decide); (case q9kt => decide); (case q9kd => ktr_room); (case q9ku => ktr_units); (case q9kN => first | k_asm | exact news_swap (by k_asm)); (case q9kne => first | assumption | k_all)); intro _ _ _ _ _ _ _ _ _ _ _ _))
  (k_with "call ref" => (k_here; (with_reducible show wpAny _ _ (call (Value.ref 147) [Value.int _ _]) _ _ _); k_dflt (refine' bins_says ?q9kB ?q9kF ?q9kX ?q9kN ?q9kT ?q9kk ?q9kd ?q9k0 ?q9k1 ?_; (case q9kB => k_asm); (case q9kF => k_asm); (case q9kX => assumption); (case q9kT => k_asm); (case q9kk => rfl); (case q9k0 => omega); (case q9k1 => omega); (case q9kd => ktr_room); (case q9kN => k_asm)); intro _ _ _ _ _ _ _ _ _ _ _ _ _ _ _ _ _ _ _ _ _ _))
  (k_with "call type:range" => (k_here; (with_unfolding_all (refine' range1_rows ?q9F ?q9N ?_; (case q9F => k_asm); (case q9N => k_asm))); intro _ _ _ _ _ _ _ _ _))
  (k_with "call ref" => (k_here; (with_reducible show wpAny _ _ (call (Value.ref 179) [Value.ref _, Value.int _ _]) _ _ _); k_dflt (refine' take_at ?q9kB ?q9kF ?q9kX ?q9kN ?q9kT ?q9kk ?q9kS ?q9k0 ?q9kt ?q9kd ?q9ku ?_; (case q9kS => assumption); (case q9kB => k_asm); (case q9kF => k_asm); (case q9kX => assumption); (case q9kN => k_asm); (case q9kT => k_asm); (case q9kk => rfl); (case q9k0 => decide); (case q9kt => decide); (case q9kd => ktr_room); (case q9ku => ktr_units)); intro _ _ _ _ _ _ _ _ _ _ _ _))
  (k_with "call ref" => (k_here; (with_reducible show wpAny _ _ (call (Value.ref 179) [Value.ref _, Value.int 36 _]) _ _ _); k_dflt (refine' take_atD ?q9kB ?q9kF ?q9kX ?q9kN ?q9kT ?q9kk ?q9kS ?q9kD ?q9k0 ?q9kt ?q9kd ?q9ku ?_; (case q9kB => k_asm); (case q9kF => k_asm); (case q9kX => assumption); (case q9kN => k_asm); (case q9kT => k_asm); (case q9kS => assumption); (case q9kD => assumption); (case q9kk => rfl); (case q9k0 => decide); (case q9kt => decide); (case q9kd => ktr_room); (case q9ku => ktr_units)); intro _ _ _ _ _ _ _ _ _ _ _ _))
  (k_with "call builtin:len" => (k_here; k_dflt (refine' len_rows' ?q9S ?q9N ?q9hod ?q9lo ?q9hk ?_; (case q9S => assumption); (case q9N => k_asm); (case q9hod => assumption); (case q9lo => assumption); (case q9hk => assumption))))
  (k_with "call builtin:sorted" => (k_here; k_dflt (refine' sorted' ?q9S ?q9N ?q9hh ?q9F ?q9hod ?q9lo ?q9hk ?_; (case q9S => assumption); (case q9N => first | k_asm | exact News.tail' (by k_asm)); (case q9hh => rfl); (case q9F => k_asm); (case q9hod => assumption); (case q9lo => assumption); (case q9hk => assumption)); intro _ _ _ _ _ _ _ _ _))
  (k_with "subscriptTail" => (k_here; (with_reducible show wpAny _ _ (subscriptTail _ _ (Value.ref _) (Value.int _ _)) _ _ _); k_dflt (refine' item_key' ?q9N ?q9S ?q9hi ?q9h0 ?q9h1 ?_ ?q9hs; (case q9N => k_asm); (case q9S => assumption); (case q9hi => assumption); (case q9h0 => assumption); (case q9h1 => assumption); (case q9hs => with_unfolding_all rfl)); intro _ _ _ _))
  (k_with "setItem ref int" => (k_here; (with_reducible show wpAny _ _ (setItem (Value.ref _) (Value.int _ _) (Value.int _ _)) _ _ _); k_dflt (first | (refine' put_st ?q9F ?q9S ?q9N ?q9hi ?q9h0 ?q9h1 ?q9hf ?_; (case q9F => k_asm); (case q9S => assumption); (case q9N => first | k_asm | exact News.tail' (by k_asm)); (case q9hi => assumption); (case q9h0 => omega); (case q9h1 => omega); (case q9hf => omega)) | (refine' put_se ?q9F ?q9S ?q9N ?q9hi ?q9h0 ?q9h1 ?q9hf ?_; (case q9F => k_asm); (case q9S => assumption); (case q9N => first | k_asm | exact News.tail' (by k_asm)); (case q9hi => assumption); (case q9h0 => omega); (case q9h1 => omega); (case q9hf => omega))); intro _ _ _ _ _))
  (k_with "call builtin:list.append" => (k_here; (with_reducible show wpAny _ _ (call (Value.builtin _) [Value.ref _, Value.ref _]) _ _ _); k_dflt (refine' push_due ?q9F ?q9S ?q9N ?q9hq ?q9hz ?_; (case q9F => k_asm); (case q9S => assumption); (case q9N => k_asm); (case q9hq => exact Nat.ne_of_gt (And.left (And.right (And.right (And.right (And.right (And.right (by assumption)))))))); (case q9hz => (unfold refs; rw [List.length_map]; omega))); intro _ _ _))
  revert X; k_fill; intro X
  refine wpAny_call ?_
  k_dflt ktr_enter
  k_steps
  rename_i g9 L9 h9 FG9 B9 X9 T9 tk0 v0 t0 d0 x0 td0 tx0 h3 tk3 p0 p1 h4 tk4 bA bdA stA seA hh1 hh2 tt1 tt2 vsA usA n1 n2 h5 tk5 iv iu al lb ls le dueA h6 l6 D h7 l7 h8 h9 h10 F8 N8 h11 tk11 ta tb tc R F11 N11 kp
  refine my_range (L := L9) (n := (1 + v0).toNat) [Str.ofString "number", Str.ofString "sense"] _ (BI src stA seA bA bdA dueA rd o n hh1 hh2 tt1 tt2 tl (1 + v0).toNat) rfl rfl R (small_one (by omega) (by omega) (by omega) (by omega)) ((rangeSize_nat _ _).trans (by omega)) F11 N11 ?_ (bi_start (n1 := n1) (n2 := n2) (n3 := 0) hne iv iu al lb ls le l6.2.1) ?_ ?_
  · intro p hp
    simp only [led, inner, refs, List.map_nil, List.nil_append, List.mem_cons, List.mem_append] at hp ⊢
    rcases hp with h | h | h | h | h | h | h | h <;> simp [h]
  · rintro i nx t u h tk own hi hoff ⟨d, x, td, tx, vs, us, ns, ms, m1, m2, m3, es, rfl, S, hvs, hus, hln, hlm, hle, ea, eb, hb⟩ F' N'
    replace N' := led_own N'
    replace S := S.own hoff
    have hkeys : kvs.map (·.1) = rowKeys := hr.keys
    clear N11 F11 N8 F8 kp
    (try k_fold)
    k_steps
    refine bi_turn (by assumption) (by assumption) (by assumption) (by assumption) (by assumption) (by assumption) (by assumption) (by assumption) (by assumption) (by assumption) (by assumption) (by assumption) (by assumption) (by assumption) (by assumption) (by assumption) ?_
    intro y hy1 hy2
    have a1 : y ≠ Str.ofString "sense" := by rintro rfl; exact absurd hy2 (by decide)
    have a2 : y ≠ Str.ofString "number" := by rintro rfl; exact absurd hy2 (by decide)
    have a3 : ¬ ([Str.ofString "number", Str.ofString "sense"].contains y = true) := by rw [hy2]; exact Bool.false_ne_true
    exact (if_neg a1).trans ((if_neg a2).trans ((if_neg hy1).trans (if_neg a3)))
  · rintro nx u h tk ⟨d, x, td, tx, vs, us, ns, ms, m1, m2, m3, es, rfl, S, hvs, hus, hln, hlm, hle, ea, eb, hb⟩ F' N'
    rw [List.take_of_length_le (Nat.le_of_eq hln)] at ea
    rw [List.take_of_length_le (Nat.le_of_eq hlm)] at eb
    subst ea
    subst eb
    clear N11 F11 N8 F8 kp
    (try k_fold)
    k_steps
    exact ret _ _ _ _ _ _ _ _ _ _ vs us _ _ _ _ _ _ _ _ es _ _ S hvs hus (by omega) (by omega) hb (by assumption) (by assumption)
end Mine
end
section
open PySem PySem.W PyProof.Rows PySem.Calls
namespace Mine
theorem ne_front {d src : Addr} {o po : Obj} {tl : List (Addr × Obj)} (h : ∀ p ∈ ((d, o) :: tl : List (Addr × Obj)), ∀ q ∈ ([(src, po)] : List (Addr × Obj)), p.1 ≠ q.1) : ∀ p ∈ ((d, o) :: tl : List (Addr × Obj)), p.1 ≠ src := fun p hp => h p hp _ (.head _)
theorem news_front {h₀ h : Heap} {L : Addr} {a b : Addr × Obj} {tl : List (Addr × Obj)} (N : News h₀ L h (a :: (tl ++ [b]))) : News h₀ L h (b :: a :: tl) := news_sub N fun p hp => by
  simp only [List.mem_cons, List.mem_append, List.not_mem_nil, or_false] at hp ⊢
  rcases hp with h | h | h <;> simp [h]
theorem rows_at {w : World} {p : Program} {loose : List Str} {mean : ExcName → Option Value} {mg mb : Str → Option Value}
    {dp un : Nat} {gd : Option (List Code)} {cn : Str} {cs : Scope} {a : Addr} {ccd : Value} {cl : List (Str × Addr)} {outer : List Env} {A₀ : Around} {base h₀ : Heap} {L : Addr} {m : Str → Option Value}
    {s : Shared} {Q E : Value → Shared → Prop} {src : Addr} {po : Obj}
    (B : Below A₀ base outer h₀) (F : Fr h₀ L s.heap m) (X : (hd.heap_39 w.params).In h₀) (N : News h₀ L s.heap [(src, po)]) (T : Top p loose mean mg mb h₀)
    (hk : cs.kind = .function) (hdp : dp + 5 < recursionLimit)
    (ret : ∀ (d : Addr) (o : Obj) (tl : List (Addr × Obj)) (kvs : List (Int × Value)) (h' : Heap) (tk : Nat), Fr h₀ L h' m → News h₀ L h' ((src, po) :: (d, o) :: tl) → o.IsDictOf (PySem.intKind PySem.Challenge.rw_nz0236_01.row.prog w) kvs → (d == sysModules) = false → RowsIn tl kvs lawRows →
      (∀ p ∈ ((d, o) :: tl), p.1 ≠ src) → kvs.map (·.1) = rowKeys → Q (.ref d) { s with heap := h', toks := tk }) :
    wpAny (model PySem.Challenge.rw_nz0236_01.row.prog w) (ktrTop dp un gd cn cs L a ccd cl outer) (call (.ref 186) []) Q E s :=
  rows_says B F X N T hk hdp fun d o tl kvs h' tk F' N' hod lo hr hf => ret d o tl kvs h' tk F' (news_front N') hod lo hr (ne_front hf) hr.keys
local macro_rules | `(tactic| k_all) => `(tactic| assumption)
local macro_rules | `(tactic| walk_at $s:str) => `(tactic| k_extra $s)
theorem hb_due {es es' : List Ent} {y : Int} (h : ∀ a ∈ es', a ∈ es ∨ a.b = y) (hb : ∀ e ∈ es, e.b = 0 ∨ e.b = 1) (hy : y = 0 ∨ y = 1) : ∀ e ∈ es', e.b = 0 ∨ e.b = 1 := fun e he => by
  rcases h e he with h | h
  · exact hb e h
  · rw [h]; exact hy
theorem bit_fmod {a b : Int} (ha : a = 0 ∨ a = 1) (hb : b = 0 ∨ b = 1) : (a + b).fmod 2 = 0 ∨ (a + b).fmod 2 = 1 := by
  rcases ha with rfl | rfl <;> rcases hb with rfl | rfl <;> decide
local macro_rules | `(tactic| walk_at "InvEndG") => `(tactic| (k_here; refine Hold.out ?_))
local macro_rules | `(tactic| walk_at "pyIter ref") => `(tactic| (k_here; refine Hold.out ?_))
theorem names_off {y : Str} (h : [Str.ofString "at", Str.ofString "is_less", Str.ofString "behind_less", Str.ofString "behind_more", Str.ofString "is_exchanged"].contains y = false) :
    y ≠ Str.ofString "at" ∧ y ≠ Str.ofString "is_less" ∧ y ≠ Str.ofString "behind_less" ∧ y ≠ Str.ofString "behind_more" ∧ y ≠ Str.ofString "is_exchanged" ∧ ¬ ([Str.ofString "at", Str.ofString "is_less", Str.ofString "behind_less", Str.ofString "behind_more", Str.ofString "is_exchanged"].contains y = true) := by
  refine ⟨?_, ?_, ?_, ?_, ?_, by rw [h]; exact Bool.false_ne_true⟩ <;> (rintro rfl; exact absurd h (by decide))
set_option maxHeartbeats 8000000 in
theorem law_holds : PySem.Challenge.rw_nz0236_01.Holds := hd (by
  w_top off; k_with_none
  (k_with "call ref" => (k_here; (with_reducible show wpAny _ _ (call (Value.ref 172) [Value.ref _]) _ _ _); k_dflt (refine' pool_says ?q9kB ?q9kF ?q9kX ?q9kN ?q9kT ?q9kk ?q9kd ?q9kl ?q9ki ?q9kn ?q9ky ?_; (case q9kB => k_asm); (case q9kF => k_asm); (case q9kX => assumption); (case q9kN => first | k_asm | exact News.tail' (by k_asm)); (case q9kT => k_asm); (case q9kk => rfl); (case q9kd => ktr_room); (case q9kl => assumption); (case q9ki => assumption); (case q9kn => omega); (case q9ky => assumption)); intro _ _ _ _ _ _ _ _ _ _))
  (k_with "call ref" => (k_here; (with_reducible show wpAny _ _ (call (Value.ref 186) _) _ _ _); k_dflt (show wpAny _ _ (call (Value.ref 186) []) _ _ _); k_dflt (refine' rows_at ?q9kB ?q9kF ?q9kX ?q9kN ?q9kT ?q9kk ?q9kd ?_; (case q9kB => k_asm); (case q9kF => k_asm); (case q9kX => assumption); (case q9kN => first | k_asm | exact News.tail' (by k_asm)); (case q9kT => k_asm); (case q9kk => rfl); (case q9kd => ktr_room)); intro _ _ _ _ _ _ _ _ _ _ _ _ _))
  (k_with "call ref" => (k_here; (with_reducible show wpAny _ _ (call (Value.ref 193) [Value.ref _, Value.ref _]) _ _ _); k_dflt (refine' built_says ?q9kB ?q9kF ?q9kX ?q9kN ?q9kT ?q9kk ?q9kd ?q9ku ?q9ke ?q9ko ?q9kl ?q9kr ?_; (case q9kB => k_asm); (case q9kF => k_asm); (case q9kX => assumption); (case q9kN => first | k_asm | exact News.tail' (by k_asm)); (case q9kT => k_asm); (case q9kk => rfl); (case q9kd => ktr_room); (case q9ku => ktr_units); (case q9ke => assumption); (case q9ko => assumption); (case q9kl => assumption); (case q9kr => assumption)); intro _ _ _ _ _ _ _ _ _ _ _ _ _ _ _ _ _ _ _ _ _ _ _ _ _ _ _ _ _ _ _))
  (k_with "call ref" => (k_here; (with_reducible show wpAny _ _ (call (Value.ref 179) [Value.ref _, Value.int _ _]) _ _ _); k_dflt (refine' take_at ?q9kB ?q9kF ?q9kX ?q9kN ?q9kT ?q9kk ?q9kS ?q9k0 ?q9kt ?q9kd ?q9ku ?_; (case q9kB => k_asm); (case q9kF => k_asm); (case q9kX => assumption); (case q9kN => first | k_asm | exact News.tail' (by k_asm)); (case q9kT => k_asm); (case q9kS => assumption); (case q9kk => rfl); (case q9k0 => first | decide | omega); (case q9kt => first | decide | omega); (case q9kd => ktr_room); (case q9ku => ktr_units)); intro _ _ _ _ _ _ _ _ _ _ _ _))
  (k_with "call ref" => (k_here; (with_reducible show wpAny _ _ (call (Value.ref 179) [Value.ref _, Value.int 36 _]) _ _ _); k_dflt (refine' take_atD ?q9kB ?q9kF ?q9kX ?q9kN ?q9kT ?q9kk ?q9kS ?q9kD ?q9k0 ?q9kt ?q9kd ?q9ku ?_; (case q9kB => k_asm); (case q9kF => k_asm); (case q9kX => assumption); (case q9kN => first | k_asm | exact News.tail' (by k_asm)); (case q9kT => k_asm); (case q9kS => assumption); (case q9kD => assumption); (case q9kk => rfl); (case q9k0 => decide); (case q9kt => decide); (case q9kd => ktr_room); (case q9ku => ktr_units)); intro _ _ _ _ _ _ _ _ _ _ _ _))
  (k_with "call ref" => (k_here; (with_reducible show wpAny _ _ (call (Value.ref 179) [Value.ref _, Value.int (Nat.cast (List.length _)) _]) _ _ _); k_dflt (refine' take_due ?q9kB ?q9kF ?q9kX ?q9kN ?q9kT ?q9kk ?q9kS ?q9kb ?q9k1 ?q9k5 ?q9kd ?q9ku ?_; (case q9kB => k_asm); (case q9kF => k_asm); (case q9kX => assumption); (case q9kN => first | k_asm | exact News.tail' (by k_asm)); (case q9kT => k_asm); (case q9kS => assumption); (case q9kb => assumption); (case q9kk => rfl); (case q9k1 => assumption); (case q9k5 => assumption); (case q9kd => ktr_room); (case q9ku => ktr_units)); intro _ _ _ _ _ _ _ _ _ _ _ _ _ _ _ _ _))
  (k_with "call builtin:len" => (k_here; k_dflt (first | (refine' len_due' ?q9S ?q9N ?q9hl ?_; (case q9S => assumption); (case q9N => first | k_asm | exact News.tail' (by k_asm) | exact News.tail' (News.tail' (by k_asm))); (case q9hl => assumption)) | (refine' len_rows' ?q9S ?q9N ?q9hod ?q9lo ?q9hk ?_; (case q9S => assumption); (case q9N => k_asm); (case q9hod => assumption); (case q9lo => assumption); (case q9hk => assumption)))))
  (k_with "call builtin:sorted" => (k_here; k_dflt (refine' sorted' ?q9S ?q9N ?q9hh ?q9F ?q9hod ?q9lo ?q9hk ?_; (case q9S => assumption); (case q9N => first | k_asm | exact News.tail' (by k_asm) | exact News.tail' (News.tail' (by k_asm))); (case q9hh => rfl); (case q9F => k_asm); (case q9hod => assumption); (case q9lo => assumption); (case q9hk => assumption)); intro _ _ _ _ _ _ _ _ _))
  (k_with "compareOp NotIn int ref" => (k_here; k_dflt (refine' notin' ?q9S ?q9N ?q9hod ?q9lo ?q9hk ?_ ?_; (case q9S => assumption); (case q9N => first | k_asm | exact News.tail' (by k_asm) | exact News.tail' (News.tail' (by k_asm))); (case q9hod => assumption); (case q9lo => assumption); (case q9hk => assumption)) <;> intro _))
  (k_with "subscriptTail" => (k_here; (with_reducible show wpAny _ _ (subscriptTail _ _ (Value.ref _) (Value.int _ _)) _ _ _); k_dflt (refine' item_due' ?q9S ?q9N ?q9h0 ?q9h1 ?q9he ?_ ?q9hs; (case q9S => assumption); (case q9N => first | k_asm | exact News.tail' (by k_asm) | exact News.tail' (News.tail' (by k_asm))); (case q9h0 => assumption); (case q9h1 => assumption); (case q9he => assumption); (case q9hs => with_unfolding_all rfl))))
  (k_with "subscriptTail" => (k_here; (with_reducible show wpAny _ _ (subscriptTail _ _ (Value.ref (Ent.q _)) (Value.int 0 _)) _ _ _); k_dflt (refine' ent0' ?q9S ?q9N ?q9he ?_ ?q9hs; (case q9S => assumption); (case q9N => first | k_asm | exact News.tail' (by k_asm) | exact News.tail' (News.tail' (by k_asm))); (case q9he => assumption); (case q9hs => with_unfolding_all rfl))))
  (k_with "subscriptTail" => (k_here; (with_reducible show wpAny _ _ (subscriptTail _ _ (Value.ref (Ent.q _)) (Value.int 1 _)) _ _ _); k_dflt (refine' ent1' ?q9S ?q9N ?q9he ?_ ?q9hs; (case q9S => assumption); (case q9N => first | k_asm | exact News.tail' (by k_asm) | exact News.tail' (News.tail' (by k_asm))); (case q9he => assumption); (case q9hs => with_unfolding_all rfl))))
  (k_with "subscriptTail" => (k_here; (with_reducible show wpAny _ _ (subscriptTail _ _ (Value.ref _) (Value.int _ _)) _ _ _); k_dflt (refine' item_key' ?q9N ?q9S ?q9hi ?q9h0 ?q9h1 ?_ ?q9hs; (case q9N => k_asm); (case q9S => assumption); (case q9hi => assumption); (case q9h0 => assumption); (case q9h1 => assumption); (case q9hs => with_unfolding_all rfl)); intro _ _ _ _))
  (k_with "subscriptTail" => (k_here; (with_reducible show wpAny _ _ (subscriptTail _ _ (Value.ref _) (Value.int (Ent.a _) _)) _ _ _); k_dflt (refine' item_row' ?q9S ?q9N ?q9hod ?q9hr ?q9hk ?_ ?q9hx ?q9hg; (case q9S => assumption); (case q9N => first | k_asm | exact News.tail' (by k_asm) | exact News.tail' (News.tail' (by k_asm))); (case q9hod => assumption); (case q9hr => assumption); (case q9hk => first | assumption | ((rename Ent.a _ = _ => hz'); rw [hz']; assumption)); (case q9hx => with_unfolding_all rfl); (case q9hg => (intro _; with_unfolding_all rfl))); intro _ _ _ _ _ _ _ _))
  (k_with "setItem ref int" => (k_here; (with_reducible show wpAny _ _ (setItem (Value.ref (Ent.q _)) (Value.int 0 _) (Value.int _ _)) _ _ _); k_dflt (refine' set_ent' ?q9F ?q9S ?q9N ?q9he ?q9hb ?q9iu ?_; (case q9F => k_asm); (case q9S => assumption); (case q9N => first | k_asm | exact News.tail' (by k_asm)); (case q9he => assumption); (case q9hb => assumption); (case q9iu => assumption)); intro _ _ _ _ _ _ _ _ _ _ _ _ _ _))
  (k_with "setItem ref int" => (k_here; (with_reducible show wpAny _ _ (setItem (Value.ref _) (Value.int _ _) (Value.int (Ent.a _) _)) _ _ _); k_dflt (refine' set_st ?q9F ?q9S ?q9N ?q9hi ?q9hz ?q9h0 ?q9hf ?q9hl ?_; (case q9S => assumption); (case q9F => k_asm); (case q9N => first | k_asm | exact News.tail' (by k_asm)); (case q9hi => assumption); (case q9hz => assumption); (case q9h0 => assumption); (case q9hf => assumption); (case q9hl => assumption)); intro _ _ _ _))
  (k_with "setItem ref int ref" => (k_here; (with_reducible show wpAny _ _ (setItem (Value.ref _) (Value.int _ _) (Value.ref _)) _ _ _); k_dflt (refine' set_due ?q9F ?q9S ?q9N ?q9he ?q9h0 ?q9hf ?q9l ?_; (case q9F => k_asm); (case q9S => assumption); (case q9N => k_asm); (case q9he => assumption); (case q9h0 => assumption); (case q9hf => assumption); (case q9l => assumption)); intro _ _ _ _ _ _ _ _ _ _))
  (k_with "call ref" => (k_here; (with_reducible show wpAny _ _ (call (Value.ref 158) [Value.ref _, Value.int _ _]) _ _ _); k_dflt (refine' more_at ?q9kB ?q9kF ?q9kX ?q9kN ?q9kT ?q9kk ?q9kS ?q9kd ?q9ki ?q9k0 ?q9ke ?q9kl ?q9kr ?q9kq ?_; (case q9kB => k_asm); (case q9kF => k_asm); (case q9kX => assumption); (case q9kN => first | k_asm | exact News.tail' (by k_asm)); (case q9kT => k_asm); (case q9kk => rfl); (case q9kS => assumption); (case q9kd => ktr_room); (case q9ke => assumption); (case q9ki => first | assumption | ((rename eA _ = _ => hA'); rw [hA']; assumption)); (case q9k0 => assumption); (case q9kl => omega); (case q9kr => assumption); (case q9kq => assumption)); intro _ _ _ _ _ _))
  (k_with "call ref" => (k_here; (with_reducible show wpAny _ _ (call (Value.ref 165) [Value.ref _, Value.int _ _]) _ _ _); k_dflt (refine' less_at ?q9kB ?q9kF ?q9kX ?q9kN ?q9kT ?q9kk ?q9kS ?q9kd ?q9ki ?q9kj ?q9k0 ?q9ke ?q9kl ?q9kb ?q9kr ?q9kq ?_; (case q9kB => k_asm); (case q9kF => k_asm); (case q9kX => assumption); (case q9kN => first | k_asm | exact News.tail' (by k_asm)); (case q9kT => k_asm); (case q9kk => rfl); (case q9kS => assumption); (case q9kd => ktr_room); (case q9ke => assumption); (case q9ki => first | assumption | ((rename eA _ = _ => hA'); rw [hA']; assumption)); (case q9kj => assumption); (case q9k0 => assumption); (case q9kl => omega); (case q9kb => assumption); (case q9kr => assumption); (case q9kq => assumption)); intro _ _ _ _ _ _ _ _))
  (k_with "call ref" => (k_here; (with_reducible show wpAny _ _ (call (Value.ref 198) [Value.ref _]) _ _ _); k_dflt (refine' told_at ?q9kB ?q9kF ?q9kX ?q9kN ?q9kT ?q9kk ?q9kd ?q9ki ?q9kj ?q9kl ?_; (case q9kB => k_asm); (case q9kF => k_asm); (case q9kX => assumption); (case q9kN => first | k_asm | exact News.tail' (by k_asm)); (case q9kT => k_asm); (case q9kk => rfl); (case q9kd => ktr_room); (case q9ki => ((rename eA _ = _ => hA'); rw [hA']; assumption)); (case q9kj => ((rename eB _ = _ => hB'); rw [hB']; first | assumption | (rw [set_same (eB_get (by assumption))]; assumption))); (case q9kl => omega)); intro _ _ _ _ _ _ _ _ _))
  (k_with "compareOp NotEq ref ref" => (k_here; k_dflt (refine' ne_told ?q9N ?q9D ?q9hu ?_; (case q9N => k_asm); (case q9D => assumption); (case q9hu => ktr_units))))
  (k_with "call type:range" => (k_here; (with_unfolding_all (refine' range1_rows ?q9F ?q9N ?_; (case q9F => k_asm); (case q9N => k_asm))); intro _ _ _ _ _ _ _ _ _))
  (k_with "call ref" => (k_here; (with_reducible show wpAny _ _ (call (Value.ref 205) [Value.ref _]) _ _ _); k_dflt (refine' new_right_says ?q9kB ?q9kF ?q9kX ?q9kN ?q9kT ?q9kk ?q9kd ?q9ku ?q9kne ?_; (case q9kB => k_asm); (case q9kF => k_asm); (case q9kX => assumption); (case q9kN => k_asm); (case q9kT => k_asm); (case q9kk => rfl); (case q9kd => ktr_room); (case q9ku => ktr_units); (case q9kne => first | assumption | exact Sy.offSrc (by assumption))); intro _ _ _ _ _ _ _ _))
  (k_with "call ref" => (k_here; (with_reducible show wpAny _ _ (call (Value.ref 212) [Value.ref _]) _ _ _); k_dflt (refine' fixed_right_says ?q9kB ?q9kF ?q9kX ?q9kN ?q9kT ?q9kk ?q9kd ?q9ku ?q9kne ?_; (case q9kB => k_asm); (case q9kF => k_asm); (case q9kX => assumption); (case q9kN => k_asm); (case q9kT => k_asm); (case q9kk => rfl); (case q9kd => ktr_room); (case q9ku => ktr_units); (case q9kne => first | assumption | exact Sy.offSrc (by assumption))); intro _ _ _))
  k_go0
  all_goals try k_fold
  k_steps
  rename_i src d0 x0 td0 tx0 ha tka hnw rd o tl kvs hb' tkb hod lo hr hf hkeys Dt hc l1 hd1 he1 hf1 tk0 tup b bd st se due hh1 hh2 tt1 tt2 vs us n1 n2 n3 n4 d1 x1 td1 tx1 es hg tkg S iv iu l1' l5 hb hh hi hj lF N9 v tv d2 x2 td2 tx2 hk tkk v0 v1 F8 N8 hl tkl ta tb tc R F11 N11 kp
  refine my_range (n := (6 + v).toNat) [Str.ofString "at", Str.ofString "is_less", Str.ofString "behind_less", Str.ofString "behind_more", Str.ofString "is_exchanged"] _ (fun _ => LI src st se b bd due rd o 0 hh1 hh2 tt1 tt2 tl) rfl rfl R (small_one (by omega) (by omega) (by omega) (by omega)) ((rangeSize_nat _ _).trans (by omega)) F11 N11 (fun p hp => hp) ⟨_, _, _, _, _, _, _, _, _, es, rfl, S, iv, iu, l1', l5, hb⟩ ?_ ?_
  · clear N11 F11 N8 F8 N9 lF kp R S iv iu l1' l5 hb
    rintro i nx t u h tk own hi hoff ⟨d, x, td, tx, vs, us, m1, m2, m3, es, rfl, S, iv, iu, l1', l5, hb⟩ F' N'
    replace N' := led_own N'
    replace S := S.own hoff
    (try k_fold)
    k_steps
    all_goals (
      unfold Hold
      refine li_turn (by assumption) (by assumption) (by assumption) hoff ?hv ?hu ?h1 ?h5 ?hb ?hm
      case hv => ((rename eA _ = _ => hA'); rw [hA']; assumption)
      case hu => ((rename eB _ = _ => hB'); rw [hB']; first | assumption | (rw [set_same (eB_get (by assumption))]; assumption))
      case h1 => omega
      case h5 => omega
      case hb => first | exact hb_due (by assumption) (by assumption) (by assumption) | exact hb_due (by assumption) (by assumption) (bit_fmod (by assumption) (rows_flag _ (by assumption)))
      case hm =>
        intro y hy1 hy2
        obtain ⟨a1, a2, a3, a4, a5, a6⟩ := names_off hy2
        exact (if_neg a5).trans ((if_neg a4).trans ((if_neg a3).trans ((if_neg a1).trans ((if_neg a2).trans ((if_neg hy1).trans (if_neg a6)))))))
  · rintro nx u h tk ⟨d, x, td, tx, vs, us, m1, m2, m3, es, rfl, S, iv, iu, l1', l5, hb⟩ F' N'
    clear N11 F11 N8 F8 N9 lF kp R
    (try k_fold)
    k_steps)
end Mine
end
set_option maxRecDepth 100000 in
set_option maxHeartbeats 8000000 in
theorem PySem.Challenge.cw_nz0236_01_holds : PySem.Challenge.rw_nz0236_01.Holds := by
  exact Mine.law_holds
