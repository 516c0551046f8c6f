import PyProof.Rows.All
import Wide.All
import OpenK.AllK
import Wide.FinOn
import HandS.SortKw
import HandS.Keys
import HandS.Iter
import HandS.Walk
import HandS.Deep
import HandS.Words
import HandS.Exc
import HandS.SortInts
import HandS.SortOrd
import HandS.ForMost
import HandS.ForExc
import HandS.Style
import HandS.TupAny
import HandS.Conv
import HandS.Small
import HandS.IsInst
import KE.GoesEnum
import HandS.Rev
import HandS.RevTup
import HandS.TryOnly
import HandS.HotCalls
import HandS.ExcIs
import HandS.More
import HandS.WordsExc
import HandS.ReplaceLit
import HandS.ReplaceDef
import HandS.ReplaceList
import PyProof.P3Eq
import PySem.Challenge.RW_throng_k16_rows_by_fields
set_option Elab.async false
set_option linter.all false
set_option maxRecDepth 100000
set_option maxHeartbeats 4000000
namespace En
open PySem PySem.Spec PyProof.Rows L2 SrtO Srt

/-! ### sorted(x, key=f), f a def -/
/-- the place where a key is asked for -/
abbrev in2 (X : Cx) : Cx := { X with A := X.A.in1.in1, xe := fun _ _ => False }
theorem ok_in2 {X : Cx} (ok : X.Ok) : (in2 X).Ok :=
  ⟨ok.mod, ok.kind, ok.glob, ok.blt, ok.above, ok.inj, ok.has, ok.cab, ok.hd, ok.frames, ok.stk, ok.exf, ok.bs, ok.bsz, ok.noex, ok.exfs, ok.funs, ok.frf⟩
section
variable {X : Cx} {pins : List (Addr × Obj)} {σ : L2.St} {H : Hp} {s : Shared}
theorem inv_in2 (I : Inv X pins σ H s) : Inv (in2 X) pins σ H s := ⟨ok_in2 I.ok, I.os, I.bare, I.base, I.loc, I.cell, I.free, I.freeC, I.pin, I.hok, I.len⟩
theorem inv_of2 (ok : X.Ok) (I : Inv (in2 X) pins σ H s) : Inv X pins σ H s := ⟨ok, I.os, I.bare, I.base, I.loc, I.cell, I.free, I.freeC, I.pin, I.hok, I.len⟩
/-- a thing of ours that is pinned changes -/
theorem ghost_upd {kS a : Addr} {o o' oa : Obj} {h' : Heap} {t' : Nat} (I : Inv X (pins ++ [(kS, o), (a, oa)]) σ H s) (hne : kS ≠ a) (hx : X.s_0.heap.objs.size ≤ kS) (h3 : ∀ p ∈ X.pn ++ pins, p.1 ≠ kS)
    (k : ∀ b u, b ≠ kS → s.heap.get? b = some u → h'.get? b = some u) (e : h'.get? kS = some o') (hd : ∀ v, o'.data ≠ .cell v) : Inv X (pins ++ [(kS, o'), (a, oa)]) σ H { s with heap := h', toks := t' } := by
  obtain ⟨k1, k2, k3, k4, k5⟩ := I.pin (kS, o) (List.mem_append_right _ (List.mem_append_right _ (.head _)))
  obtain ⟨a1, a2, a3, a4, a5⟩ := I.pin (a, oa) (List.mem_append_right _ (List.mem_append_right _ (.tail _ (.head _))))
  have hc : ∀ x c, X.env.cells.lookup x = some c → c ≠ kS := fun x c z q => by
    obtain ⟨v, o2, ho, hd2⟩ := I.cell x c z
    rw [q, k1] at ho
    cases ho
    exact k5 _ hd2
  have J := I.unpinned.turned (t' := t') k k2 k3 (.inr hx) hc h3
  refine J.pins_of fun p hp => ?_
  rcases List.mem_append.mp hp with hp | hp
  · exact J.pin p (List.mem_append_right _ hp)
  · rcases List.mem_cons.mp hp with rfl | hp
    · exact ⟨e, k2, k3, k4, hd⟩
    · rw [List.mem_singleton.mp hp]
      exact ⟨k a oa hne.symm a1, a2, a3, a4, a5⟩
end
/-- by the key alone -/
abbrev ltK (p q : Int × V) : Bool := decide (p.1 < q.1)
theorem swoK {β : Type} : Swo fun (p q : Int × β) => decide (p.1 < q.1) := by
  refine ⟨fun x y h => ?_, fun x y z h1 h2 => ?_⟩
  · have a := of_decide_eq_true h
    exact decide_eq_false (by omega)
  · have a := of_decide_eq_false h1
    have b := of_decide_eq_false h2
    exact decide_eq_false (by omega)
def gV (u : Value) : V := (absV u).getD .non
theorem gV_of {x : V} {u : Value} (r : RelV x u) : gV u = x := by unfold gV; rw [r.abs]; rfl
theorem vals_gV : ∀ {us : List Value}, (∀ u ∈ us, ∃ x, RelV x u) → Vals (us.map gV) us
  | [], _ => .nil
  | u :: us, h => by
    obtain ⟨x, r⟩ := h u List.mem_cons_self
    refine .cons ?_ (vals_gV fun v hv => h v (List.mem_cons_of_mem _ hv))
    rw [gV_of r]
    exact r
theorem gV_map : ∀ {xs : List V} {us : List Value}, Vals xs us → us.map gV = xs
  | _, _, .nil => rfl
  | _, _, .cons r q => by rw [List.map_cons, gV_of r, gV_map q]
theorem vals_has : ∀ {xs : List V} {us : List Value}, Vals xs us → ∀ u ∈ us, ∃ x, RelV x u
  | _, _, .nil, u, h => by cases h
  | _, _, .cons r q, u, h => by
    rcases List.mem_cons.mp h with rfl | h
    · exact ⟨_, r⟩
    · exact vals_has q u h
abbrev gK (p : Keyed) : Int × V := (iv p.1, gV p.2)
theorem gK_zip {ks its : List Value} : (ks.zip its).map gK = (ks.map iv).zip (its.map gV) := by
  induction ks generalizing its with
  | nil => rfl
  | cons k ks ih => cases its with
    | nil => rfl
    | cons u its => simp only [List.zip_cons_cons, List.map_cons, ih]
theorem vals_mem {xs : List V} {us : List Value} (r : Vals xs us) : ∀ p ∈ xs.zip us, RelV p.1 p.2 := by
  induction r with
  | nil => exact fun p hp => by cases hp
  | cons a _ ih =>
    intro p hp
    rcases List.mem_cons.mp hp with rfl | hp
    · exact a
    · exact ih p hp
section
variable {X : Cx} {pins : List (Addr × Obj)} {σ : L2.St} {H : Hp} {s : Shared} {l : Addr} {xs : List V} {kz : List Int} {f : Value} {Q : VK}
theorem srk_run (I : Inv X pins σ H s) (hs : SqL X.K H l xs) (hlen : kz.length = xs.length) (ht : ∀ x, Builtin.«list.sort» ⟨[.ref x], [(Str.ofString "key", f)]⟩ = ksk_tree x f false)
    (turn : ∀ (i : Nat) (x : V) (k : Int), xs[i]? = some x → kz[i]? = some k → ∀ (H' : Hp) (pins' : List (Addr × Obj)) (s' : Shared) (u : Value), Same H H' → Inv (in2 X) pins' σ H' s' → RelV x u →
      wpAny (model X.prog X.w) X.A.in1.in1 (call f [u]) (fun v s'' => (∃ t, v = .int k t) ∧ ∃ H'', Same H' H'' ∧ Inv (in2 X) pins' σ H'' s'') (fun _ _ => False) s')
    (q : ∀ (p : Addr) (H' : Hp) (out : List (Int × V)), Same H H' → H' p = none → Srtd ltK out → Stb ltK out (kz.zip xs) → Q (.ref p) (upd H' p (.lst (out.map (·.2))))) :
    wpAny (model X.prog X.w) X.A (call (.builtin "sorted") [.ref l] [(Str.ofString "key", f)]) (EP X pins σ Q) X.xe s := by
  obtain ⟨its, rv, hl, hz⟩ := I.list hs
  have hli : xs.length = its.length := rv.length
  have hzi : its.length ≤ sizeLine := by omega
  refine call_function_entry_kw kind_sorted plain_sorted entry_sorted (ksk_s1 _ _) ?_
  unfold Builtin.«sorted»
  refine wpAny_bind (m := checkCount "sorted" 1 1 _) (wpAny_pure ?_)
  refine wpAny_bind (collect_list hl.isList ?_ (by simpa using hzi))
  refine wpAny_bind (wpAny_newList ?_ (by simpa using hzi))
  have hsz : ((s.heap.push (seqObj "list" #[] 0)).update s.heap.objs.size (Obj.mapSeq (· ++ its.toArray))).objs.size = s.heap.objs.size + 1 := by
    rw [Heap.size_update, size_push']
  have hoL : (((s.heap.push (seqObj "list" #[] 0)).update s.heap.objs.size (Obj.mapSeq (· ++ its.toArray))).push (seqObj "list" its.toArray 0)).get? (s.heap.objs.size + 1) = some (seqObj "list" its.toArray 0) := by
    rw [← hsz]; exact Heap.get?_push_size _ rfl
  have keep : ∀ b o, s.heap.get? b = some o → (((s.heap.push (seqObj "list" #[] 0)).update s.heap.objs.size (Obj.mapSeq (· ++ its.toArray))).push (seqObj "list" its.toArray 0)).get? b = some o := fun b o q => by
    have hlt : b < s.heap.objs.size := Heap.lt_size q
    rw [Heap.get?_push_ne _ _ _ (by rw [hsz]; exact Nat.ne_of_lt (Nat.lt_succ_of_lt hlt)), Heap.get?_update_ne _ _ _ _ (Nat.ne_of_lt hlt), Heap.get?_push_ne _ _ _ (Nat.ne_of_lt hlt)]
    exact q
  show wpAny _ _ _ _ _ { s with heap := ((s.heap.push (seqObj "list" #[] 0)).update s.heap.objs.size (Obj.mapSeq (· ++ its.toArray))).push (seqObj "list" its.toArray 0) }
  rw [hsz]
  refine wpAny_bind (wpAny_holding (wpAny_call_entry_kw slot_list_sort ⟨_, hoL, rfl⟩ entry_list_sort ?body (ksk_l1 _ _)))
  show wpAny (model X.prog X.w) X.A.in1.in1 (Builtin.«list.sort» ⟨[.ref (s.heap.objs.size + 1)], _⟩) _ _ _
  rw [ht]
  generalize hh1 : ((s.heap.push (seqObj "list" #[] 0)).update s.heap.objs.size (Obj.mapSeq (· ++ its.toArray))).push (seqObj "list" its.toArray 0) = h1 at hoL keep ⊢
  generalize ha : s.heap.objs.size + 1 = a at hoL ⊢
  have has : s.heap.objs.size ≤ a := by omega
  obtain ⟨e1, ho1⟩ : ∃ e1, (h1.update a (Obj.mapSeq fun _ => (#[] : Array Value))).get? a = some (seqObj "list" #[] e1) := ⟨_, get?_update_seq hoL fun _ => #[]⟩
  unfold ksk_tree
  refine wpAny_bind (listItems_at hoL rfl ?_)
  refine wpAny_bind (listUpdate_at hoL rfl ?_ (by rw [List.size_toArray]; exact hzi) (Nat.zero_le _))
  refine wpAny_bind (seqEpoch_at ho1 rfl ?_)
  refine wpAny_bind (wpAny_newTuple ?_ (by show its.length ≤ _; exact hzi))
  refine wpAny_bind (wpAny_newList ?_ (Nat.zero_le _))
  refine wpAny_holding ?_
  have hal : a < h1.objs.size := Heap.lt_size hoL
  have hkS : ((h1.update a (Obj.mapSeq fun _ => (#[] : Array Value))).push (seqObj "tuple" its.toArray 0)).objs.size = h1.objs.size + 1 := by rw [size_push', Heap.size_update]
  have keep2 : ∀ b o, s.heap.get? b = some o → (((h1.update a (Obj.mapSeq fun _ => (#[] : Array Value))).push (seqObj "tuple" its.toArray 0)).push (seqObj "list" #[] 0)).get? b = some o := fun b o e => by
    refine Heap.get?_push_of_some _ (Heap.get?_push_of_some _ ?_)
    have hb : b ≠ a := Nat.ne_of_lt (Nat.lt_of_lt_of_le (Heap.lt_size e) has)
    rw [Heap.get?_update_ne _ _ _ _ hb]
    exact keep b o e
  have hoA : (((h1.update a (Obj.mapSeq fun _ => (#[] : Array Value))).push (seqObj "tuple" its.toArray 0)).push (seqObj "list" #[] 0)).get? a = some (seqObj "list" #[] e1) := Heap.get?_push_of_some _ (Heap.get?_push_of_some _ ho1)
  have hoK : (((h1.update a (Obj.mapSeq fun _ => (#[] : Array Value))).push (seqObj "tuple" its.toArray 0)).push (seqObj "list" #[] 0)).get? (h1.objs.size + 1) = some (seqObj "list" #[] 0) := by
    rw [← hkS]; exact Heap.get?_push_size _ rfl
  show wpAny _ _ (ksk_rest a f false its.toArray e1 (.ref ((h1.update a (Obj.mapSeq fun _ => (#[] : Array Value))).push (seqObj "tuple" its.toArray 0)).objs.size)) _ _ { s with heap := ((h1.update a (Obj.mapSeq fun _ => (#[] : Array Value))).push (seqObj "tuple" its.toArray 0)).push (seqObj "list" #[] 0) }
  rw [hkS]
  generalize ((h1.update a (Obj.mapSeq fun _ => (#[] : Array Value))).push (seqObj "tuple" its.toArray 0)).push (seqObj "list" #[] 0) = h2 at keep2 hoA hoK ⊢
  have hs1 : s.heap.objs.size ≤ h1.objs.size + 1 := by omega
  generalize hkk : h1.objs.size + 1 = kS at hoK hs1 ⊢
  have hka : kS ≠ a := Nat.ne_of_gt (by rw [← hkk]; exact Nat.lt_succ_of_lt hal)
  have fpA := (inv_in2 I).fpOk (b := a) has (I.hok.fresh has)
  have fpK := (inv_in2 I).fpOk (b := kS) hs1 (I.hok.fresh hs1)
  have nocell : ∀ {vs : Array Value} {n : Nat} v, (seqObj "list" vs n).data ≠ .cell v := fun v z => by cases z
  have I2 : Inv (in2 X) (pins ++ [(kS, seqObj "list" #[] 0), (a, seqObj "list" #[] e1)]) σ H { s with heap := h2 } := by
    have J := (inv_in2 I).kept (t' := s.toks) keep2
    refine J.pins_of fun p hp => ?_
    rcases List.mem_append.mp hp with hp | hp
    · exact J.pin p (List.mem_append_right _ hp)
    · rcases List.mem_cons.mp hp with rfl | hp
      · exact ⟨hoK, fpK.1, fpK.2.1, fpK.2.2.1, nocell⟩
      · rw [List.mem_singleton.mp hp]
        exact ⟨hoA, fpA.1, fpA.2.1, fpA.2.2.1, nocell⟩
  have hxK : (in2 X).s_0.heap.objs.size ≤ kS := Nat.le_trans I.sz hs1
  have hpK : ∀ p ∈ (in2 X).pn ++ pins, p.1 ≠ kS := fpK.2.2.2.2.2
  have hpA : ∀ p ∈ (in2 X).pn ++ pins, p.1 ≠ a := fpA.2.2.2.2.2
  unfold ksk_rest
  refine wpAny_bind (wpAny_rule ?_)
  first
    | rw [List.forIn_toArray]
    | (rw [← Array.forIn_toList]; simp only [List.toList_toArray])
    | rw [← Array.forIn_toList]
  refine wpAny_bind (ksk_fold (fun i s' => ∃ H' kA e, Same H H' ∧ Inv (in2 X) (pins ++ [(kS, seqObj "list" kA e), (a, seqObj "list" #[] e1)]) σ H' s' ∧ IntsAre kA.toList (kz.take i)) its 0 _
    ⟨H, #[], 0, fun _ _ z => z, I2, by simpa using IntsAre.nil⟩ ?step ?done)
  case step =>
    rintro j u s' hu ⟨H', kA, e, sm, I', hk⟩
    simp only [Nat.zero_add] at hk ⊢
    have hj : j < its.length := (List.getElem?_eq_some_iff.mp hu).1
    obtain ⟨k, hkj⟩ : ∃ k, kz[j]? = some k := ⟨_, List.getElem?_eq_getElem (by omega)⟩
    obtain ⟨x, hx⟩ : ∃ x, xs[j]? = some x := ⟨_, List.getElem?_eq_getElem (by omega)⟩
    have hrel : RelV x u := by
      refine vals_mem rv (x, u) (List.mem_of_getElem? (i := j) ?_)
      rw [List.getElem?_zip_eq_some]
      exact ⟨hx, hu⟩
    have hz2 : kA.size ≤ its.length := by
      have h1 := hk.length
      rw [Array.length_toList, List.length_take] at h1
      omega
    refine wpAny_bind (wpAny_attempt (wpAny_mono (turn j x k hx hkj H' _ s' u sm I' hrel) (fun v s'' he => ?_) fun _ _ hF => hF.elim))
    obtain ⟨⟨t2, rfl⟩, H'', sm2, I''⟩ := he
    try dsimp only
    obtain ⟨k1, k2, k3, k4, k5⟩ := I''.pin (kS, seqObj "list" kA e) (List.mem_append_right _ (List.mem_append_right _ (.head _)))
    have s1 := Heap.SameBut.update s''.heap kS (Obj.mapSeq (·.push (.int k t2)))
    obtain ⟨c2, hc2⟩ : ∃ c2, (s''.heap.update kS (Obj.mapSeq (·.push (.int k t2)))).get? kS = some (seqObj "list" (kA.push (.int k t2)) c2) := ⟨_, get?_update_seq k1 (·.push (.int k t2))⟩
    have ek : kz.take (j + 1) = kz.take j ++ [k] := by rw [List.take_add_one, hkj]; simp
    have ea : (kA.push (Value.int k t2)).toList = kA.toList ++ [Value.int k t2] := by simp
    refine wpAny_bind (listUpdate_at k1 rfl ?_ (Nat.le_trans hz2 hzi) (Nat.le_trans (Nat.le_of_eq (Array.size_push ..)) (by omega)))
    refine wpAny_pure ⟨rfl, H'', kA.push (.int k t2), c2, sm.trans sm2, ghost_upd I'' hka hxK hpK (fun b o hb e => (s1.2 b hb).trans e) hc2 nocell, by rw [ea, ek]; exact ksk_snoc hk⟩
  case done =>
    rintro s' ⟨H', kA, e, sm, I', hk⟩
    have hk' : IntsAre kA.toList kz := by
      have e3 : kz.take (0 + its.length) = kz := List.take_of_length_le (by omega)
      rw [e3] at hk
      exact hk
    obtain ⟨k1, k2, k3, k4, k5⟩ := I'.pin (kS, seqObj "list" kA e) (List.mem_append_right _ (List.mem_append_right _ (.head _)))
    obtain ⟨a1, a2, a3, a4, a5⟩ := I'.pin (a, seqObj "list" #[] e1) (List.mem_append_right _ (List.mem_append_right _ (.tail _ (.head _))))
    try dsimp only
    refine wpAny_bind (listItems_at k1 rfl ?_)
    have hsk : kA.size = its.length := by
      have h1 := hk'.length
      rw [Array.length_toList] at h1
      omega
    have hmem : ∀ p ∈ (kA.zip its.toArray).toList, p.1 ∈ kA.toList := fun p hp => by
      rw [ksk_zip] at hp
      exact (List.of_mem_zip hp).1
    -- what comes out
    have tail_ : ∀ (st : SortSt), Srtd (lt2 ltIv) (arrOf st).toList → Stb (lt2 ltIv) (arrOf st).toList (kA.zip its.toArray).toList → failedOf st = none →
        wpAny (model X.prog X.w) X.A.in1.in1 (ksk_tail a false e1 (.ref kS) st) (fun r s'' => r = .done (.ret .none) ∧ EP X pins σ Q (.ref a) s'') X.xe s' := by
      intro st o1 o2 o3
      rw [ksk_zip] at o2
      have hlz : (arrOf st).size = its.length := by
        have := o2.perm.length_eq
        rw [Array.length_toList, List.length_zip, Array.length_toList, hsk, Nat.min_self] at this
        exact this
      have hout : ((arrOf st).map (·.2)).size = its.length := by rw [Array.size_map]; exact hlz
      have s1 := Heap.SameBut.update s'.heap kS (Obj.mapSeq fun _ => (#[] : Array Value))
      have na1 : (s'.heap.update kS (Obj.mapSeq fun _ => (#[] : Array Value))).get? a = some (seqObj "list" #[] e1) := (s1.2 a hka.symm).trans a1
      have s2 := Heap.SameBut.update (s'.heap.update kS (Obj.mapSeq fun _ => (#[] : Array Value))) a (Obj.mapSeq fun _ => (arrOf st).map (·.2))
      obtain ⟨c2, hc2⟩ : ∃ c2, ((s'.heap.update kS (Obj.mapSeq fun _ => (#[] : Array Value))).update a (Obj.mapSeq fun _ => (arrOf st).map (·.2))).get? a = some (seqObj "list" ((arrOf st).map (·.2)) c2) :=
        ⟨_, get?_update_seq na1 fun _ => (arrOf st).map (·.2)⟩
      have J1 := ghost_upd (t' := s'.toks) I' hka hxK hpK (fun b o hb e => (s1.2 b hb).trans e) (get?_update_seq k1 fun _ => (#[] : Array Value)) nocell
      have fa : FpOk (in2 X) pins H' a := ⟨a2, a3, a4, .inr (Nat.le_trans I.sz has), fpA.2.2.2.2.1, hpA⟩
      unfold ksk_tail
      try dsimp only
      refine wpAny_bind (listUpdate_at k1 rfl ?_ (by rw [hsk]; exact hzi) (Nat.zero_le _))
      refine wpAny_bind (wpAny_letGo ?_)
      refine wpAny_bind (seqEpoch_at na1 rfl ?_)
      refine wpAny_bind (listUpdate_at na1 rfl ?_ (Nat.zero_le _) (Nat.le_trans (Nat.le_of_eq hout) (by omega)))
      rw [o3]
      simp only [bne_self_eq_false, Bool.false_eq_true, if_false]
      have hrel : ∀ p ∈ (arrOf st).toList, ∃ x, RelV x p.2 := fun p hp => vals_has rv p.2 (List.of_mem_zip (o2.perm.mem_iff.mp hp)).2
      have hv : Vals (((arrOf st).toList.map gK).map (·.2)) ((arrOf st).map (·.2)).toList := by
        have e : ((arrOf st).toList.map gK).map (·.2) = (((arrOf st).map (·.2)).toList).map gV := by
          rw [Array.toList_map, List.map_map, List.map_map]
          rfl
        rw [e]
        refine vals_gV fun u hu => ?_
        rw [Array.toList_map] at hu
        obtain ⟨p, hp, rfl⟩ := List.mem_map.mp hu
        exact hrel p hp
      have hlen2 : (((arrOf st).toList.map gK).map (·.2)).length ≤ sizeLine := by
        rw [List.length_map, List.length_map, Array.length_toList, hlz]
        exact hzi
      have J2 := J1.unpinned.take (t' := s'.toks) (o := .lst (((arrOf st).toList.map gK).map (·.2))) (fun b o hb e => (s2.2 b hb).trans e) fa ⟨hlen2, _, c2, hv, by rw [Array.toArray_toList]; exact hc2⟩
      have St := Stb.map swoK gK (l := (arrOf st).toList) (m := kA.toList.zip its) o2
      rw [gK_zip, gV_map rv, iv_ints hk'] at St
      refine wpAny_pure ⟨rfl, .ref a, _, inv_of2 I.ok J2, rfl, q a H' _ sm a2 (List.pairwise_map.mpr o1) St⟩
    have fin : wpAny (model X.prog X.w) X.A.in1.in1 (ksk_end a false its.toArray e1 (.ref kS) kA) (fun r s'' => r = .done (.ret .none) ∧ EP X pins σ Q (.ref a) s'') X.xe s' := by
      unfold ksk_end
      simp only [Bool.false_eq_true, if_false]
      by_cases h2 : its.toArray.size < 2
      · rw [if_pos h2, if_pos h2]
        refine wpAny_bind (wpAny_pure ?_)
        rw [StateT.run_pure]
        refine wpAny_bind (wpAny_pure ?_)
        try dsimp only
        refine tail_ (SortSt.mk' general' (kA.zip its.toArray) #[] 7 none) ?_ (Stb.refl _) rfl
        show Srtd (lt2 ltIv) (kA.zip its.toArray).toList
        have hl2 : (kA.zip its.toArray).toList.length < 2 := by
          rw [ksk_zip, List.length_zip, Array.length_toList, hsk]
          rw [List.size_toArray] at h2
          omega
        generalize (kA.zip its.toArray).toList = z at hl2
        match z, hl2 with
        | [], _ => exact List.Pairwise.nil
        | [v], _ => exact List.pairwise_singleton _ _
        | _ :: _ :: l, h => exact absurd h (by rw [List.length_cons, List.length_cons]; omega)
      · rw [if_neg h2, if_neg h2]
        rw [List.size_toArray] at h2
        rw [ksk_kind hk' (by rw [hsk]; omega)]
        refine wpAny_bind (wpAny_pure ?_)
        refine wpAny_bind (wpAny_mono (wpS_sortO (st0 := SortSt.mk' oneType' (kA.zip its.toArray) #[] 7 none)
          (Q := fun _ st' => Srtd (lt2 ltIv) (arrOf st').toList ∧ Stb (lt2 ltIv) (arrOf st').toList (kA.zip its.toArray).toList ∧ failedOf st' = none) (swo2 swo_int) (int_cmp hk') rfl hmem rfl rfl fun st' a1 a2 a3 => ⟨a1, a2, a3⟩) ?_ fun _ _ e => e)
        rintro ⟨⟨⟩, st'⟩ s4 ⟨rfl, hp1, hp2, hf⟩
        try dsimp only
        exact tail_ st' hp1 hp2 hf
    refine wpAny_mono fin (fun r s'' h => ?_) fun _ _ z => z
    obtain ⟨rfl, h⟩ := h
    refine ⟨_, rfl, ?_⟩
    exact wpAny_pure ⟨_, rfl, h⟩
end
/-! the one such list -/
section
variable {β γ : Type}
abbrev ltI (p q : Int × β) : Bool := decide (p.1 < q.1)
def insK (p : Int × β) : List (Int × β) → List (Int × β)
  | [] => [p]
  | q :: l => if q.1 < p.1 then q :: insK p l else p :: q :: l
def srtK (l : List (Int × β)) : List (Int × β) := l.foldr insK []
theorem insK_map (f : β → γ) (p : Int × β) : ∀ l : List (Int × β), insK (p.1, f p.2) (l.map fun q => (q.1, f q.2)) = (insK p l).map fun q => (q.1, f q.2)
  | [] => rfl
  | q :: l => by
    rw [List.map_cons]
    unfold insK
    split
    · rw [List.map_cons, insK_map f p l]
    · rfl
theorem srtK_map (f : β → γ) : ∀ l : List (Int × β), srtK (l.map fun q => (q.1, f q.2)) = (srtK l).map fun q => (q.1, f q.2)
  | [] => rfl
  | q :: l => by
    show insK (q.1, f q.2) (srtK (l.map fun q => (q.1, f q.2))) = _
    rw [srtK_map f l, insK_map]
    rfl
theorem insK_srtd (p : Int × β) : ∀ {l : List (Int × β)}, Srtd ltI l → Srtd ltI (insK p l) ∧ ∃ A B, l = A ++ B ∧ insK p l = A ++ p :: B ∧ ∀ a ∈ A, ltI a p = true
  | [], _ => ⟨List.pairwise_singleton _ _, [], [], rfl, rfl, fun a h => by cases h⟩
  | q :: l, h => by
    unfold insK
    have hq := List.pairwise_cons.mp h
    split
    · rename_i hlt
      obtain ⟨h1, A, B, e1, e2, h2⟩ := insK_srtd p hq.2
      refine ⟨List.pairwise_cons.mpr ⟨fun z hz => ?_, h1⟩, q :: A, B, by rw [e1]; rfl, by rw [e2]; rfl, fun a ha => ?_⟩
      · rw [e2] at hz
        have : z = p ∨ z ∈ l := by
          rw [e1]
          rcases List.mem_append.mp hz with z1 | z1
          · exact .inr (List.mem_append_left _ z1)
          · rcases List.mem_cons.mp z1 with z1 | z1
            · exact .inl z1
            · exact .inr (List.mem_append_right _ z1)
        rcases this with rfl | hz
        · exact decide_eq_false (by omega)
        · exact hq.1 z hz
      · rcases List.mem_cons.mp ha with rfl | ha
        · exact decide_eq_true hlt
        · exact h2 a ha
    · rename_i hlt
      refine ⟨List.pairwise_cons.mpr ⟨fun z hz => ?_, h⟩, [], q :: l, rfl, rfl, fun a ha => by cases ha⟩
      rcases List.mem_cons.mp hz with rfl | hz
      · exact decide_eq_false hlt
      · have := of_decide_eq_false (hq.1 z hz)
        exact decide_eq_false (by omega)
theorem stb_move {p : Int × β} : ∀ {A B : List (Int × β)}, (∀ a ∈ A, ltI a p = true) → Stb ltI (A ++ p :: B) (p :: (A ++ B)) := fun {A B} h => by
  refine ⟨List.perm_middle, fun x => ?_⟩
  rw [List.filter_append, List.filter_cons, List.filter_cons, List.filter_append]
  split
  · rename_i hx
    have e : A.filter (eqv ltI x) = [] := List.filter_eq_nil_iff.mpr fun a ha z => by
      have h1 := of_decide_eq_true (h a ha)
      obtain ⟨x1, x2⟩ := eqv_iff.mp hx
      obtain ⟨y1, y2⟩ := eqv_iff.mp z
      have x1 := of_decide_eq_false x1
      have x2 := of_decide_eq_false x2
      have y1 := of_decide_eq_false y1
      have y2 := of_decide_eq_false y2
      omega
    rw [e]
    rfl
  · rfl
theorem stb_cons (p : Int × β) {l m : List (Int × β)} (h : Stb ltI l m) : Stb ltI (p :: l) (p :: m) := ⟨h.perm.cons p, fun x => by
  rw [List.filter_cons, List.filter_cons, h.cls x]⟩
theorem srtK_ok : ∀ l : List (Int × β), Srtd ltI (srtK l) ∧ Stb ltI (srtK l) l
  | [] => ⟨List.Pairwise.nil, Stb.refl _⟩
  | p :: l => by
    obtain ⟨h1, h2⟩ := srtK_ok l
    obtain ⟨k1, A, B, e1, e2, k2⟩ := insK_srtd p h1
    refine ⟨k1, ?_⟩
    show Stb ltI (insK p (srtK l)) (p :: l)
    rw [e2]
    refine (stb_move k2).trans ?_
    rw [← e1]
    exact stb_cons p h2
end
theorem srtK_uniq {out : List (Int × V)} {l : List (Int × V)} (h1 : Srtd ltK out) (h2 : Stb ltK out l) : out = srtK l :=
  stb_uniq swoK h1 (srtK_ok l).1 (h2.trans ⟨(srtK_ok l).2.perm.symm, fun x => ((srtK_ok l).2.cls x).symm⟩)
/-! as a rule -/
def rSrk (K : PySem.W.Frag) (fa : Addr) (sp : Sp) : List V → List V → Hp → VK → Prop := fun vs zs H Q => ∃ (l : Addr) (xs : List V) (kz : List Int), vs = [.ref l] ∧ zs = [.ref fa] ∧ SqL K H l xs ∧ kz.length = xs.length ∧
  (∀ (i : Nat) (x : V) (k : Int), xs[i]? = some x → kz[i]? = some k → ∀ H', Same H H' → sp [x] H' (fun v H'' => v = .int k ∧ Same H' H'') (fun _ _ _ => False)) ∧
  ∀ p H', Same H H' → H' p = none → Q (.ref p) (upd H' p (.lst ((srtK (kz.zip xs)).map (·.2))))
theorem cx_no {P : Program} {w : World} {outer : List Env} {H : Hp} {s s' : Shared} {e : Value} (h : L2.CX P w outer H s (fun _ _ _ => False) e s') : False := by
  obtain ⟨_, _, _, _, _, _, _, _, _, _, _, _, z⟩ := h
  exact z
theorem cr_srk {X : Cx} {k : Nat} {fa : Addr} {fd : FuncData} {ps : List Str} {sp : Sp} (F : FnOk X.prog X.w X.K X.mg X.base (L2.CX X.prog X.w) k fa fd ps sp) (hr : Room (k + 2) X.A) (hb : Binds X.K fd ps []) : CallRK X (.builtin "sorted") [Str.ofString "key"] (rSrk X.K fa sp) := by
  intro pins s σ H vs zs us ws Q I r rz h
  obtain ⟨l, xs, kz, rfl, rfl, hs, hlen, hk, q⟩ := h
  obtain rfl := Vals.ref1 r
  obtain rfl := Vals.ref1 rz
  refine srk_run I hs hlen (fun x => ksk_t1 fa x) (fun i x kk hx hkk H' pins' s' u sm I' ru => ?_) (fun p H' out sm hp h1 h2 => by rw [srtK_uniq h1 h2]; exact q p H' sm hp)
  have hr2 : Room k (in2 X).A := hr.in1.in1
  have hsp := hk i x kk hx hkk H' sm
  refine wpAny_mono (run_fn (X := in2 X) (E := fun _ _ _ => False) F hr2 hb (dvs := []) .nil (fun _ _ _ _ _ _ _ c => (cx_no c).elim) I' (.cons ru .nil) (by rw [List.append_nil]; exact hsp)) (fun v s'' he => ?_) fun _ _ z => z
  obtain ⟨w, H'', I'', rw', rfl, sm2⟩ := he
  obtain ⟨t, rfl⟩ := rw'
  exact ⟨⟨t, rfl⟩, H'', sm2, I''⟩
theorem pe_srk {X : Cx} {k : Nat} {fa : Addr} {fd : FuncData} {ps : List Str} {sp : Sp} {f : Str} {e : Expr} {te : TE} {p1 p2 pos kp : Pos} (F : FnOk X.prog X.w X.K X.mg X.base (L2.CX X.prog X.w) k fa fd ps sp) (hr : Room (k + 2) X.A) (hb : Binds X.K fd ps [])
    (hg : Gl X "sorted") (hm : X.mg "sorted" = none) (hf : Gl X f) (hfd : (f == ("__debug__" : Str)) = false) (hmf : X.mg f = some (.ref fa)) (he : PE X e te) (hst : starEach [e] X.env = (false, eval e X.env) :: starEach [] X.env) :
    PE X (.Call (.Name "sorted" p1) [e] [⟨some (Str.ofString "key"), .Name f p2, kp⟩] pos) (tCKw (rSrk X.K fa sp) (tCons te tNil) (tCons (tC (.ref fa)) tNil)) :=
  pe_callBK (cr_srk F hr hb) hg hm rfl (pa_cons he pa_nil hst) (pk_cons (pe_glob hf hmf rfl hfd) pk_nil) (by decide) (by decide) (by rw [hst]; rfl) (by rw [hst]; rfl)
end En
set_option Elab.async false
set_option linter.all false
set_option maxRecDepth 100000
set_option maxHeartbeats 4000000
namespace En
open PySem PySem.Spec PyProof.Rows L2

abbrev D := PyData
abbrev AS := Addr → Prop
def keyD : Key → D
  | .inl i => .int i
  | .inr x => .str x

/-! ### data in the heap: lists and dicts at addresses of L, tuples anywhere -/
mutual
inductive Dt (H : Hp) (L : AS) : V → D → Prop
  | non : Dt H L .non .none
  | bl (b : Bool) : Dt H L (.bl b) (.bool b)
  | int (i : Int) : Dt H L (.int i) (.int i)
  | str (x : Str) : Dt H L (.str x) (.str x)
  | lst {a : Addr} {xs : List V} {ds : List D} : L a → Rd H a (.lst xs) → Dts H L xs ds → Dt H L (.ref a) (.list ds)
  | tup {a : Addr} {xs : List V} {ds : List D} : Rd H a (.tup xs) → Dts H L xs ds → Dt H L (.ref a) (.tuple ds)
  | dK {a : Addr} {kvs : List (Key × V)} {es : List (D × D)} : L a → H a = some (.dK kvs) → es.map (·.1) = kvs.map (fun kv => keyD kv.1) → Dvs H L (kvs.map (·.2)) es → Dt H L (.ref a) (.dict es)
inductive Dts (H : Hp) (L : AS) : List V → List D → Prop
  | nil : Dts H L [] []
  | cons {v : V} {vs : List V} {d : D} {ds : List D} : Dt H L v d → Dts H L vs ds → Dts H L (v :: vs) (d :: ds)
inductive Dvs (H : Hp) (L : AS) : List V → List (D × D) → Prop
  | nil : Dvs H L [] []
  | cons {v : V} {vs : List V} {e : D × D} {es : List (D × D)} : Dt H L v e.2 → Dvs H L vs es → Dvs H L (v :: vs) (e :: es)
end

mutual
theorem Dt.go {H H' : Hp} {L L' : AS} (hl : ∀ a u, L a → H a = some u → H' a = some u ∧ L' a) (ht : ∀ a xs, Rd H a (.tup xs) → Rd H' a (.tup xs)) : ∀ (d : D) (v : V), Dt H L v d → Dt H' L' v d
  | .none, _, h => by cases h; exact .non
  | .bool _, _, h => by cases h; exact .bl _
  | .int _, _, h => by cases h; exact .int _
  | .str _, _, h => by cases h; exact .str _
  | .list ds, _, h => by
    cases h with
    | lst q r s =>
      have z : Rd H' _ _ ∧ L' _ := r.elim (fun e => ⟨.inl (hl _ _ q e).1, (hl _ _ q e).2⟩) fun ⟨o, e⟩ => ⟨.inr ⟨o, (hl _ _ q e).1⟩, (hl _ _ q e).2⟩
      exact .lst z.2 z.1 (Dts.go hl ht ds _ s)
  | .tuple ds, _, h => by
    cases h with
    | tup r s => exact .tup (ht _ _ r) (Dts.go hl ht ds _ s)
  | .dict es, _, h => by
    cases h with
    | dK q r e s => exact .dK (hl _ _ q r).2 (hl _ _ q r).1 e (Dvs.go hl ht es _ s)
theorem Dts.go {H H' : Hp} {L L' : AS} (hl : ∀ a u, L a → H a = some u → H' a = some u ∧ L' a) (ht : ∀ a xs, Rd H a (.tup xs) → Rd H' a (.tup xs)) : ∀ (ds : List D) (vs : List V), Dts H L vs ds → Dts H' L' vs ds
  | [], _, h => by cases h; exact .nil
  | d :: ds, _, h => by
    cases h with
    | cons h1 h2 => exact .cons (Dt.go hl ht d _ h1) (Dts.go hl ht ds _ h2)
theorem Dvs.go {H H' : Hp} {L L' : AS} (hl : ∀ a u, L a → H a = some u → H' a = some u ∧ L' a) (ht : ∀ a xs, Rd H a (.tup xs) → Rd H' a (.tup xs)) : ∀ (es : List (D × D)) (vs : List V), Dvs H L vs es → Dvs H' L' vs es
  | [], _, h => by cases h; exact .nil
  | e :: es, _, h => by
    cases h with
    | cons h1 h2 => exact .cons (Dt.go hl ht e.2 _ h1) (Dvs.go hl ht es _ h2)
end

theorem sm_rd {H H' : Hp} (e : Same H H') {a : Addr} {u : HO} (h : Rd H a u) : Rd H' a u := by
  rcases h with h | ⟨o, h⟩
  · exact .inl (e _ _ h)
  · exact .inr ⟨o, e _ _ h⟩
theorem same_new {H : Hp} {p : Addr} {o : HO} (h : H p = none) : Same H (upd H p o) := fun b x e => by
  rw [upd_ne (ne_of_none e h)]
  exact e
theorem sm_dt {H H' : Hp} {L : AS} (e : Same H H') {d : D} {v : V} (h : Dt H L v d) : Dt H' L v d := Dt.go (fun _ _ l r => ⟨e _ _ r, l⟩) (fun _ _ r => sm_rd e r) d v h
theorem sm_dts {H H' : Hp} {L : AS} (e : Same H H') {ds : List D} {vs : List V} (h : Dts H L vs ds) : Dts H' L vs ds := Dts.go (fun _ _ l r => ⟨e _ _ r, l⟩) (fun _ _ r => sm_rd e r) ds vs h
theorem sm_dvs {H H' : Hp} {L : AS} (e : Same H H') {es : List (D × D)} {vs : List V} (h : Dvs H L vs es) : Dvs H' L vs es := Dvs.go (fun _ _ l r => ⟨e _ _ r, l⟩) (fun _ _ r => sm_rd e r) es vs h
theorem Dt.wk {H : Hp} {L L' : AS} (l : ∀ a, L a → L' a) {d : D} {v : V} (h : Dt H L v d) : Dt H L' v d := Dt.go (fun a _ q r => ⟨r, l a q⟩) (fun _ _ r => r) d v h
theorem Dts.wk {H : Hp} {L L' : AS} (l : ∀ a, L a → L' a) {ds : List D} {vs : List V} (h : Dts H L vs ds) : Dts H L' vs ds := Dts.go (fun a _ q r => ⟨r, l a q⟩) (fun _ _ r => r) ds vs h
theorem Dvs.wk {H : Hp} {L L' : AS} (l : ∀ a, L a → L' a) {es : List (D × D)} {vs : List V} (h : Dvs H L vs es) : Dvs H L' vs es := Dvs.go (fun a _ q r => ⟨r, l a q⟩) (fun _ _ r => r) es vs h

theorem Dts.length {H : Hp} {L : AS} : ∀ {vs : List V} {ds : List D}, Dts H L vs ds → vs.length = ds.length
  | [], _, h => by cases h; rfl
  | _ :: _, _, h => by
    cases h with
    | cons _ t => rw [List.length_cons, List.length_cons, t.length]
theorem Dts.append {H : Hp} {L : AS} : ∀ {vs ws : List V} {ds es : List D}, Dts H L vs ds → Dts H L ws es → Dts H L (vs ++ ws) (ds ++ es)
  | [], _, _, _, h, k => by cases h; exact k
  | _ :: _, _, _, _, h, k => by
    cases h with
    | cons q t => exact .cons q (t.append k)
theorem Dts.reverse {H : Hp} {L : AS} : ∀ {vs : List V} {ds : List D}, Dts H L vs ds → Dts H L vs.reverse ds.reverse
  | [], _, h => by cases h; exact .nil
  | v :: vs, _, h => by
    cases h with
    | cons q t =>
      rw [List.reverse_cons, List.reverse_cons]
      exact t.reverse.append (.cons q .nil)
theorem Dts.get {H : Hp} {L : AS} : ∀ {vs : List V} {ds : List D} {i : Nat} {d : D}, Dts H L vs ds → ds[i]? = some d → ∃ v, vs[i]? = some v ∧ Dt H L v d
  | [], _, _, _, h, e => by cases h; simp at e
  | v :: _, _, 0, _, h, e => by
    cases h with
    | cons q t => simp at e; subst e; exact ⟨v, rfl, q⟩
  | _ :: _, _, i + 1, _, h, e => by
    cases h with
    | cons q t => simpa using t.get (i := i) (by simpa using e)
theorem Dts.getV {H : Hp} {L : AS} : ∀ {vs : List V} {ds : List D} {i : Nat} {v : V}, Dts H L vs ds → vs[i]? = some v → ∃ d, ds[i]? = some d ∧ Dt H L v d
  | [], _, _, _, h, e => by simp at e
  | _ :: _, _, 0, _, h, e => by
    cases h with
    | cons q t => simp at e; subst e; exact ⟨_, rfl, q⟩
  | _ :: _, _, i + 1, _, h, e => by
    cases h with
    | cons q t => simpa using t.getV (i := i) (by simpa using e)
theorem Dts.drop {H : Hp} {L : AS} : ∀ {vs : List V} {ds : List D} (n : Nat), Dts H L vs ds → Dts H L (vs.drop n) (ds.drop n)
  | _, _, 0, h => by simpa using h
  | [], _, n + 1, h => by cases h; simpa using Dts.nil
  | _ :: _, _, n + 1, h => by
    cases h with
    | cons q t => simpa using t.drop n
theorem Dts.take {H : Hp} {L : AS} : ∀ {vs : List V} {ds : List D} (n : Nat), Dts H L vs ds → Dts H L (vs.take n) (ds.take n)
  | _, _, 0, h => by simpa using Dts.nil
  | [], _, n + 1, h => by cases h; simpa using Dts.nil
  | _ :: _, _, n + 1, h => by
    cases h with
    | cons q t => simpa using Dts.cons q (t.take n)
theorem Dts.set {H : Hp} {L : AS} {v : V} {d : D} (q : Dt H L v d) : ∀ {vs : List V} {ds : List D} (i : Nat), Dts H L vs ds → Dts H L (vs.set i v) (ds.set i d)
  | [], _, _, h => by cases h; simpa using Dts.nil
  | _ :: _, _, 0, h => by
    cases h with
    | cons r t => simpa using Dts.cons q t
  | _ :: _, _, i + 1, h => by
    cases h with
    | cons r t => simpa using Dts.cons r (t.set q i)
theorem Dts.rev {H : Hp} {L : AS} : ∀ {vs : List V} {ds : List D}, Dts H L vs ds → Dts H L vs.reverse ds.reverse
  | [], _, h => by cases h; simpa using Dts.nil
  | _ :: _, _, h => by
    cases h with
    | cons r t => simpa using t.rev.append (.cons r .nil)
theorem Dts.cons_inv {H : Hp} {L : AS} {v : V} {vs : List V} {d : D} {ds : List D} (h : Dts H L (v :: vs) (d :: ds)) : Dt H L v d ∧ Dts H L vs ds := by
  cases h with
  | cons a b => exact ⟨a, b⟩
theorem Dts.cons_inv' {H : Hp} {L : AS} {vs : List V} {d : D} {ds : List D} (h : Dts H L vs (d :: ds)) : ∃ v ws, vs = v :: ws ∧ Dt H L v d ∧ Dts H L ws ds := by
  cases h with
  | cons a b => exact ⟨_, _, rfl, a, b⟩
theorem Dts.nil_inv {H : Hp} {L : AS} {vs : List V} (h : Dts H L vs []) : vs = [] := by cases h; rfl

theorem dts_new {H : Hp} {L : AS} {p : Addr} {o : HO} (hp : H p = none) {ds : List D} {vs : List V} (h : Dts H L vs ds) : Dts (upd H p o) (fun b => L b ∧ b ≠ p) vs ds :=
  Dts.go (fun a _ l e => ⟨same_new hp _ _ e, l, fun z => by rw [z, hp] at e; cases e⟩) (fun _ _ r => sm_rd (same_new hp) r) ds vs h
/-- all of it -/
abbrev Any : AS := fun _ => True
mutual
def noD : D → Bool
  | .list ds => noDs ds
  | .tuple ds => noDs ds
  | .dict _ => false
  | _ => true
def noDs : List D → Bool
  | [] => true
  | d :: ds => noD d && noDs ds
end
mutual
theorem Dt.dp {K : PySem.W.Frag} {H : Hp} {L : AS} : ∀ (d : D) (v : V), noD d = true → Dt H L v d → Dp K H v d
  | .none, _, _, h => by cases h; exact .non
  | .bool _, _, _, h => by cases h; exact .bl _
  | .int _, _, _, h => by cases h; exact .int _
  | .str _, _, _, h => by cases h; exact .str _
  | .list ds, _, n, h => by
    cases h with
    | lst q r s => exact .lst (.inl r) (Dts.dp ds _ (by simpa [noD] using n) s)
  | .tuple ds, _, n, h => by
    cases h with
    | tup r s => exact .tup (.inl r) (Dts.dp ds _ (by simpa [noD] using n) s)
  | .dict es, _, n, h => by simp [noD] at n
theorem Dts.dp {K : PySem.W.Frag} {H : Hp} {L : AS} : ∀ (ds : List D) (vs : List V), noDs ds = true → Dts H L vs ds → DpAll K H vs ds
  | [], _, _, h => by cases h; exact .nil
  | d :: ds, _, n, h => by
    simp only [noDs, Bool.and_eq_true] at n
    cases h with
    | cons h1 h2 => exact .cons (Dt.dp d _ n.1 h1) (Dts.dp ds _ n.2 h2)
end
mutual
theorem noD_of : ∀ d : D, d.canLay0 = true → noD d = true
  | .none, _ => rfl
  | .bool _, _ => rfl
  | .int _, _ => rfl
  | .str _, _ => rfl
  | .list ds, h => by simp only [PyData.canLay0] at h; simpa [noD] using noDs_of ds h
  | .tuple ds, h => by simp only [PyData.canLay0] at h; simpa [noD] using noDs_of ds h
  | .dict _, h => by simp [PyData.canLay0] at h
theorem noDs_of : ∀ ds : List D, PyData.canLayAll0 ds = true → noDs ds = true
  | [], _ => rfl
  | d :: ds, h => by
    simp only [PyData.canLayAll0, Bool.and_eq_true] at h
    simp [noDs, noD_of d h.1, noDs_of ds h.2]
end

/-- what is known of the top: the content, what is in it lies in L -/
inductive Cn (H : Hp) (L : AS) : V → D → Prop
  | non : Cn H L .non .none
  | bl (b : Bool) : Cn H L (.bl b) (.bool b)
  | int (i : Int) : Cn H L (.int i) (.int i)
  | str (x : Str) : Cn H L (.str x) (.str x)
  | lst {a : Addr} {xs : List V} {ds : List D} : Rd H a (.lst xs) → Dts H L xs ds → Cn H L (.ref a) (.list ds)
  | tup {a : Addr} {xs : List V} {ds : List D} : Rd H a (.tup xs) → Dts H L xs ds → Cn H L (.ref a) (.tuple ds)
  | dK {a : Addr} {kvs : List (Key × V)} {es : List (D × D)} : H a = some (.dK kvs) → es.map (·.1) = kvs.map (fun kv => keyD kv.1) → Dvs H L (kvs.map (·.2)) es → Cn H L (.ref a) (.dict es)
theorem Dt.cn {H : Hp} {L : AS} {v : V} {d : D} (h : Dt H L v d) : Cn H L v d := by
  cases h with
  | non => exact .non
  | bl b => exact .bl b
  | int i => exact .int i
  | str x => exact .str x
  | lst _ r s => exact .lst r s
  | tup r s => exact .tup r s
  | dK _ r e s => exact .dK r e s
theorem Cn.any {H : Hp} {L : AS} {v : V} {d : D} (h : Cn H L v d) : Dt H Any v d := by
  cases h with
  | non => exact .non
  | bl b => exact .bl b
  | int i => exact .int i
  | str x => exact .str x
  | lst r s => exact .lst trivial r (s.wk fun _ _ => trivial)
  | tup r s => exact .tup r (s.wk fun _ _ => trivial)
  | dK r e s => exact .dK trivial r e (s.wk fun _ _ => trivial)
theorem Cn.wk {H : Hp} {L L' : AS} (l : ∀ a, L a → L' a) {v : V} {d : D} (h : Cn H L v d) : Cn H L' v d := by
  cases h with
  | non => exact .non
  | bl b => exact .bl b
  | int i => exact .int i
  | str x => exact .str x
  | lst r s => exact .lst r (s.wk l)
  | tup r s => exact .tup r (s.wk l)
  | dK r e s => exact .dK r e (s.wk l)
theorem sm_cn {H H' : Hp} {L : AS} (e : Same H H') {v : V} {d : D} (h : Cn H L v d) : Cn H' L v d := by
  cases h with
  | non => exact .non
  | bl b => exact .bl b
  | int i => exact .int i
  | str x => exact .str x
  | lst r s => exact .lst (sm_rd e r) (sm_dts e s)
  | tup r s => exact .tup (sm_rd e r) (sm_dts e s)
  | dK r e' s => exact .dK (e _ _ r) e' (sm_dvs e s)
theorem Cn.dp {K : PySem.W.Frag} {H : Hp} {L : AS} {v : V} {d : D} (h : Cn H L v d) (n : noD d = true) : Dp K H v d := Dt.dp d v n h.any

/-! nothing that changes is within -/
mutual
def imm : D → Bool
  | .list _ => false
  | .dict _ => false
  | .tuple ds => imms ds
  | _ => true
def imms : List D → Bool
  | [] => true
  | d :: ds => imm d && imms ds
end
mutual
theorem Dt.imm {H : Hp} {L L' : AS} : ∀ (d : D) (v : V), En.imm d = true → Dt H L v d → Dt H L' v d
  | .none, _, _, h => by cases h; exact .non
  | .bool _, _, _, h => by cases h; exact .bl _
  | .int _, _, _, h => by cases h; exact .int _
  | .str _, _, _, h => by cases h; exact .str _
  | .list ds, _, n, h => by simp [En.imm] at n
  | .tuple ds, _, n, h => by
    cases h with
    | tup r s => exact .tup r (Dts.imm ds _ (by simpa [En.imm] using n) s)
  | .dict es, _, n, h => by simp [En.imm] at n
theorem Dts.imm {H : Hp} {L L' : AS} : ∀ (ds : List D) (vs : List V), imms ds = true → Dts H L vs ds → Dts H L' vs ds
  | [], _, _, h => by cases h; exact .nil
  | d :: ds, _, n, h => by
    simp only [imms, Bool.and_eq_true] at n
    cases h with
    | cons h1 h2 => exact .cons (Dt.imm d _ n.1 h1) (Dts.imm ds _ n.2 h2)
end

/-! ### what an operation yields: a new list (nw), or data -/
def Zn (H : Hp) (L : AS) (H' : Hp) (z : V) (nw : Bool) (d : D) : Prop :=
  Same H H' ∧ (if nw = true then ∃ p xs ds, z = .ref p ∧ H p = none ∧ d = .list ds ∧ H' p = some (.lst xs) ∧ Dts H' (fun b => L b ∧ b ≠ p) xs ds else Dt H' L z d)
end En
set_option Elab.async false
set_option linter.all false
set_option maxRecDepth 100000
set_option maxHeartbeats 4000000
namespace En
open PySem PySem.Spec PyProof.Rows L2

/-! ### results, slots -/
inductive R (α : Type) where
  | bad
  | err (x : Str)
  | ok (a : α)
def R.bind {α β : Type} (r : R α) (f : α → R β) : R β := match r with
  | .bad => .bad
  | .err x => .err x
  | .ok a => f a
/-- data that stands still (m: may hold lists of old), a new list of one's own, one that is lent -/
inductive Rv where
  | fr (m : Bool) (d : D)
  | ow (m : Bool) (d : D)
  | bo (m : Bool) (d : D)
def Rv.d : Rv → D
  | .fr _ d => d
  | .ow _ d => d
  | .bo _ d => d
def Rv.m : Rv → Bool
  | .fr m _ => m
  | .ow m _ => m
  | .bo m _ => m
inductive Sl where
  | no
  | fr (m : Bool) (d : D)
  | ow (m : Bool) (d : D)
  | pt (v : V)

/-! ### the written program -/
inductive MG where
  | n (i : Nat)
  | t (l : List Nat)
mutual
inductive ME where
  | v (i : Nat)
  | kn
  | kb (b : Bool)
  | ki (i : Int)
  | ks (s : Str)
  | lst (es : MEs)
  | tup (es : MEs)
  | dK0
  | bin (op : Operator) (a b : ME)
  | neg (a : ME)
  | cmp (op : CmpOp) (a b : ME)
  | chn (op op2 : CmpOp) (a b c : ME)
  | bop (con : Bool) (es : MEs)
  | not_ (a : ME)
  | ite (c a b : ME)
  | ix (a i : ME)
  | sl (a : ME) (lo hi : MO)
  | bi (f : Str) (es : MEs)
  | isi (a : ME) (T : Str)
  | mt (o : ME) (f : Str) (es : MEs)
  | call (f : Str) (es : MEs)
  | lc (g : MG) (it : MI) (c : MO) (elt : ME)
  | lr (a b : MO)
  | rvl (a : ME)
  | rep (a : ME) (y z : Str)
  | srk (a : ME) (f : Str)
  | dgt (i : Nat) (k d : ME)
  | lix (a b : ME)
inductive MEs where
  | nil
  | cons (e : ME) (es : MEs)
inductive MO where
  | no
  | so (e : ME)
inductive MI where
  | e (a : ME)
  | r1 (a : ME)
  | r2 (a b : ME)
  | r3 (a b c : ME)
  | zip (a b : ME)
  | zip3 (a b c : ME)
  | enum (a : ME)
  | rev (a : ME)
end
mutual
inductive WT where
  | is (c : Str)
  | tup (cs : List Str)
  | or (ts : WTs)
  | not (t : WT)
inductive WTs where
  | one (t : WT)
  | cons (t : WT) (ts : WTs)
end
/-- what an except clause does: a text given to a slot, so where a test holds, what a def tells in words -/
inductive XSt where
  | set (i : Nat) (z : Str)
  | ifs (t : WT) (i : Nat) (z : Str)
  | word (i : Nat) (f : Str)
/-- what a try clause does: calls -/
inductive TB where
  | ex (f : Str) (es : MEs)
  | st (i : Nat) (own : Bool) (f : Str) (es : MEs)
  | if_ (c : ME) (a b : TB)
/-! statements; own: the new list is to be changed here -/
mutual
inductive MS where
  | skip
  | set (i : Nat) (e : ME) (own : Bool)
  | unp (l : List Nat) (e : ME)
  | par (i j : Nat) (a b : ME)
  | ret (e : ME)
  | retN
  | reto (i : Nat)
  | ife (c : ME) (a b : MSs)
  | for_ (g : MG) (it : MI) (b : MSs)
  | whl (c : ME) (b : MSs)
  | exp (e : ME)
  | app (i : Nat) (e : ME)
  | ext (i : Nat) (e : ME)
  | put (i : Nat) (k e : ME)
  | ins (i : Nat) (k e : ME)
  | popS (x i : Nat)
  | popI (x i : Nat) (k : ME)
  | raise_ (x m : Str)
  | mov (i j : Nat)
  | dput (i : Nat) (k e : ME)
  | try_ (b : TB) (tb : List (Str × List (Nat × Str))) (n : Nat) (sx : List XSt)
  | brk
  | cnt
  | never
inductive MSs where
  | nil
  | cons (s : MS) (r : MSs)
  | frz (i : Nat) (r : MSs)
end

/-! ### operations on data -/
def sc : D → Bool
  | .none => true
  | .bool _ => true
  | .int _ => true
  | .str _ => true
  | _ => false
def mk (m nw : Bool) (d : D) : Rv := if nw then .ow m d else .fr (m && !sc d) d
def scV : D → Option V
  | .none => some .non
  | .bool b => some (.bl b)
  | .int i => some (.int i)
  | .str x => some (.str x)
  | _ => none
def fits (n : Nat) : Bool := decide (n ≤ sizeLine)
def semBin (op : Operator) (d e : D) : Option (Bool × D) :=
  match op, d, e with
  | .Add, .int i, .int j => some (false, .int (i + j))
  | .Add, .str x, .str y => if fits (x.length + y.length) then some (false, .str (x ++ y)) else none
  | .Add, .list a, .list b => if fits (a.length + b.length) then some (true, .list (a ++ b)) else none
  | .Add, .tuple a, .tuple b => if fits (a.length + b.length) then some (false, .tuple (a ++ b)) else none
  | .Sub, .int i, .int j => some (false, .int (i - j))
  | .Mult, .int i, .int j => if (decide (-(2 ^ 64) < i) && decide (i < 2 ^ 64)) || (decide (-(2 ^ 64) < j) && decide (j < 2 ^ 64)) then some (false, .int (i * j)) else none
  | .Mult, .str x, .int k => if decide (-(2 ^ 63) ≤ k) && decide (k < 2 ^ 63) && fits (x.length * k.toNat) then some (false, .str ⟨((List.replicate k.toNat x.cps.toList).flatten).toArray⟩) else none
  | .Mult, .list xs, .int k => if decide (-(2 ^ 63) ≤ k) && decide (k < 2 ^ 63) && fits (xs.length * k.toNat) then some (true, .list (List.replicate k.toNat xs).flatten) else none
  | .FloorDiv, .int i, .int j => if decide (0 < j) && decide (j < 1073741824) then some (false, .int (i / j)) else none
  | .Mod, .int i, .int j => if decide (0 < j) then some (false, .int (i % j)) else none
  | .Pow, .int i, .int j => if decide (0 ≤ j) && decide (j ≤ 1000000) && decide (i.natAbs < 2 ^ 64) then some (false, .int (i ^ j.toNat)) else none
  | _, _, _ => none
def shp (d : D) : Bool := SeqAt.shaped d
def eqO (d e : D) : Option Bool :=
  match scV d, scV e with
  | some x, some y => if scal x y then some (decide (x = y)) else if shp d && shp e then some (PyData.eqv d e) else none
  | _, _ => if shp d && shp e then some (PyData.eqv d e) else none
def hasKey (es : List (D × D)) (k : D) : Bool := es.any fun e => PyData.eqv e.1 k
def isKey : D → Bool
  | .int _ => true
  | .str _ => true
  | .tuple ds => ds.all fun d => match d with
    | .int _ => true
    | .str _ => true
    | _ => false
  | _ => false
/-- dicts with texts as keys -/
def isK (d : D) (k : Str) : Bool := match d with
  | .str y => decide (y = k)
  | _ => false
def hasS (es : List (D × D)) (k : Str) : Bool := (es.map (·.1)).any fun d => isK d k
def getS : List (D × D) → Str → Option D
  | [], _ => none
  | e :: es, k => if isK e.1 k then some e.2 else getS es k
def inO (x y : D) : Option Bool :=
  match y with
  | .dict es => match x with
    | .str k => some (hasS es k)
    | _ => none
  | .str z => match x with
    | .str w => match w.cps.toList with
      | [c] => some (decide (c ∈ z.cps.toList))
      | _ => none
    | _ => none
  | .list ds => if sc x && ds.all sc then some (ds.any fun z => PyData.eqv z x) else if shp x && shp (.list ds) then some (ds.any fun z => PyData.eqv z x) else none
  | .tuple ds => if sc x && ds.all sc then some (ds.any fun z => PyData.eqv z x) else none
  | _ => none
def semLix (d e : D) : Option Int := match d with
  | .list ds => if sc e && ds.all sc then (ds.findIdx? fun z => PyData.eqv z e).map fun j => (j : Int) else none
  | _ => none
def isO (x y : D) : Option Bool :=
  match y with
  | .none => some (match x with | .none => true | _ => false)
  | .bool b => match x with
    | .bool a => some (decide (a = b))
    | _ => none
  | _ => none
def semCmp (op : CmpOp) (d e : D) : Option Bool :=
  match op with
  | .Eq => eqO d e
  | .NotEq => (eqO d e).map (!·)
  | .Lt => match d, e with | .int i, .int j => some (decide (i < j)) | _, _ => none
  | .LtE => match d, e with | .int i, .int j => some (decide (i ≤ j)) | _, _ => none
  | .Gt => match d, e with | .int i, .int j => some (decide (j < i)) | _, _ => none
  | .GtE => match d, e with | .int i, .int j => some (decide (j ≤ i)) | _, _ => none
  | .In => inO d e
  | .NotIn => (inO d e).map (!·)
  | .Is => isO d e
  | .IsNot => (isO d e).map (!·)
def semIx (d i : D) : Option D :=
  match d, i with
  | .list ds, .int k => atI ds k
  | .tuple ds, .int k => atI ds k
  | .str z, .int k => if fits z.length then (atI z.cps.toList k).map fun c => .str ⟨#[c]⟩ else none
  | _, _ => none
def cutL {α : Type} (xs : List α) (lo hi : Option Int) : List α := (xs.drop (HT.sIx xs.length 0 lo)).take (HT.sIx xs.length xs.length hi - HT.sIx xs.length 0 lo)
def semSl (d : D) (l h : Option Int) : Option (Bool × D) := match d with
  | .list ds => some (true, .list (cutL ds l h))
  | .tuple ds => some (false, .tuple (cutL ds l h))
  | .str z => if fits z.length then some (false, .str ⟨(cutL z.cps.toList l h).toArray⟩) else none
  | _ => none
def isInt : D → Option Int
  | .int i => some i
  | _ => none
def isStr : D → Option Str
  | .str x => some x
  | _ => none
def isBl : D → Option Bool
  | .bool x => some x
  | _ => none
def allO {α : Type} (f : D → Option α) : List D → Option (List α)
  | [] => some []
  | d :: ds => match f d, allO f ds with
    | some a, some r => some (a :: r)
    | _, _ => none
def maxL : List Int → Option Int
  | [] => none
  | x :: xs => some (xs.foldl (fun a b => if a < b then b else a) x)
def minL : List Int → Option Int
  | [] => none
  | x :: xs => some (xs.foldl (fun a b => if b < a then b else a) x)
def sortI (l : List Int) : List Int := l.mergeSort fun a b => decide (a ≤ b)
def digit (x : Str) : Option Int :=
  match x.cps.toList with
  | [c] => if 48 ≤ c ∧ c ≤ 57 then some ((c : Int) - 48) else none
  | _ => none
def s_len (ds : List D) : Option (Bool × D) := match ds with
  | [.list l] => some (false, .int l.length)
  | [.tuple l] => some (false, .int l.length)
  | [.str z] => if fits z.length then some (false, .int z.length) else none
  | _ => none
def s_list (ds : List D) : Option (Bool × D) := match ds with
  | [.list l] => some (true, .list l)
  | [.tuple l] => some (true, .list l)
  | [.str z] => if fits z.cps.toList.length then some (true, .list (z.cps.toList.map fun c => .str ⟨#[c]⟩)) else none
  | _ => none
def s_tuple (ds : List D) : Option (Bool × D) := match ds with
  | [.list l] => some (false, .tuple l)
  | [.tuple l] => some (false, .tuple l)
  | [.str z] => if fits z.cps.toList.length then some (false, .tuple (z.cps.toList.map fun c => .str ⟨#[c]⟩)) else none
  | _ => none
def s_sum (ds : List D) : Option (Bool × D) := match ds with
  | [.list l] => (allO isInt l).map fun ns => (false, .int ns.sum)
  | _ => none
def s_min (ds : List D) : Option (Bool × D) := match ds with
  | [.int i, .int j] => some (false, .int (if j < i then j else i))
  | [.list l] => (allO isInt l).bind fun ns => (minL ns).map fun m => (false, .int m)
  | _ => none
def s_max (ds : List D) : Option (Bool × D) := match ds with
  | [.int i, .int j] => some (false, .int (if j > i then j else i))
  | [.list l] => (allO isInt l).bind fun ns => (maxL ns).map fun m => (false, .int m)
  | _ => none
def s_int (ds : List D) : Option (Bool × D) := match ds with
  | [.int i] => some (false, .int i)
  | [.bool b] => some (false, .int (if b then 1 else 0))
  | [.str x] => (digit x).map fun i => (false, .int i)
  | _ => none
def s_any (ds : List D) : Option (Bool × D) := match ds with
  | [.list l] => (allO isBl l).map fun bs => (false, .bool (bs.any id))
  | _ => none
def s_all (ds : List D) : Option (Bool × D) := match ds with
  | [.list l] => (allO isBl l).map fun bs => (false, .bool (bs.all id))
  | _ => none
def s_sorted (ds : List D) : Option (Bool × D) := match ds with
  | [.list l] => (allO isInt l).bind fun ns => if ns.length < 64 then some (true, .list ((sortI ns).map .int)) else none
  | _ => none
def semBi (f : Str) (ds : List D) : Option (Bool × D) :=
  if f = "len" then s_len ds
  else if f = "list" then s_list ds
  else if f = "tuple" then s_tuple ds
  else if f = "sum" then s_sum ds
  else if f = "min" then s_min ds
  else if f = "max" then s_max ds
  else if f = "int" then s_int ds
  else if f = "any" then s_any ds
  else if f = "all" then s_all ds
  else if f = "sorted" then s_sorted ds
  else none
def semIsi (d : D) (T : Str) : Option Bool :=
  if T = "str" then some (match d with | .str _ => true | _ => false)
  else if T = "bool" then some (match d with | .bool _ => true | _ => false)
  else if T = "int" then some (match d with | .bool _ => true | .int _ => true | _ => false)
  else if T = "list" then some (match d with | .list _ => true | _ => false)
  else if T = "tuple" then some (match d with | .tuple _ => true | _ => false)
  else none
def m_join (o : D) (ds : List D) : Option (Bool × D) := match o, ds with
  | .str z, [.list l] => (allO isStr l).bind fun ys => if fits ((ys.map (·.length)).sum + ys.length * z.length) then some (false, .str ⟨(TL.joinL z.cps.toList (ys.map TL.tl)).toArray⟩) else none
  | _, _ => none
def m_startswith (o : D) (ds : List D) : Option (Bool × D) := match o, ds with
  | .str z, [.str y] => some (false, .bool (z.cps.toList.take y.length == y.cps.toList))
  | _, _ => none
def m_count (o : D) (ds : List D) : Option (Bool × D) := match o, ds with
  | .str z, [.str y] => some (false, .int (Txt.count z y))
  | _, _ => none
def semMt (o : D) (f : Str) (ds : List D) : Option (Bool × D) :=
  if f = "join" then m_join o ds
  else if f = "startswith" then m_startswith o ds
  else if f = "count" then m_count o ds
  else none

/-! ### the run -/
def lift (m : Bool) : Option (Bool × D) → R Rv
  | some (nw, d) => .ok (mk m nw d)
  | none => .bad
def liftB : Option Bool → R Rv
  | some b => .ok (.fr false (.bool b))
  | none => .bad
/-- what is put into another thing -/
def sto : Rv → R (Bool × D)
  | .fr m d => .ok (m && !imm d, d)
  | .ow m d => .ok (m && !imm d, d)
  | .bo _ _ => .bad
def anyM : List Rv → Bool
  | [] => false
  | r :: rs => r.m || anyM rs
def stos : List Rv → R (Bool × List D)
  | [] => .ok (false, [])
  | r :: rs => (sto r).bind fun p => (stos rs).bind fun q => .ok (p.1 || q.1, p.2 :: q.2)
def truth : Rv → R Bool
  | .fr _ (.bool b) => .ok b
  | _ => .bad
def isBo : Rv → Bool
  | .bo _ _ => true
  | _ => false
/-- a call's answer: what is lent to it isn't to be found in it -/
def ans (lent : Bool) : Rv → R Rv
  | .fr m d => if lent && m && !imm d then .bad else .ok (.fr (m && !imm d) d)
  | .ow m (.list ds) => if lent && m && !imms ds then .bad else .ok (.ow (m && !imms ds) (.list ds))
  | .ow m d => if lent && m then .bad else .ok (.ow m d)
  | .bo _ _ => .bad
def getSl (env : List Sl) (i : Nat) : R Rv :=
  match env[i]? with
  | some (.fr m d) => .ok (.fr m d)
  | some (.ow m d) => .ok (.bo m d)
  | _ => .bad
def setAll (m : Bool) : List Nat → List D → List Sl → R (List Sl)
  | [], [], env => .ok env
  | i :: is, d :: ds, env => if i < env.length then setAll m is ds (env.set i (.fr m d)) else .bad
  | _, _, _ => .bad
def bindG (g : MG) (m : Bool) (d : D) (env : List Sl) : R (List Sl) :=
  match g with
  | .n i => if i < env.length then .ok (env.set i (.fr m d)) else .bad
  | .t l => match d with
    | .tuple ds => setAll m l ds env
    | _ => .bad
/-- over items: what is told of each (none: left out) -/
def noErr {α : Type} : R α → R α
  | .ok a => .ok a
  | _ => .bad
def lcR (f : D → R (Option (Bool × D))) : List D → R (Bool × List D)
  | [] => .ok (false, [])
  | d :: ds => (f d).bind fun o => (lcR f ds).bind fun q => match o with
    | some p => .ok (p.1 || q.1, p.2 :: q.2)
    | none => .ok q
def rngD (a : Int) (n : Nat) : List D := (List.range n).map fun (i : Nat) => .int (a + (i : Int))
def rngC (a c : Int) (n : Nat) : List D := (List.range n).map fun (i : Nat) => .int (a + (i : Int) * c)
def sm (i : Int) : Bool := decide (-(2 ^ 62) ≤ i) && decide (i < 2 ^ 62)
def itemsOf : D → Option (List D)
  | .list ds => some ds
  | .tuple ds => some ds
  | .str z => some (z.cps.toList.map fun c => .str ⟨#[c]⟩)
  | _ => none
def enumD (k : Nat) : List D → List D
  | [] => []
  | d :: ds => .tuple [.int k, d] :: enumD (k + 1) ds
abbrev FT := Str → Option (Nat × (List D → R Rv))
/-- a key, an int -/
def keyR : R Rv → R Int
  | .ok (.fr _ (.int k)) => .ok k
  | _ => .bad
def keysR (g : List D → R Rv) : List D → R (List Int)
  | [] => .ok []
  | d :: ds => (keyR (g [d])).bind fun k => (keysR g ds).bind fun ks => .ok (k :: ks)
mutual
def evE (Γ : FT) (env : List Sl) : ME → R Rv
  | .v i => getSl env i
  | .kn => .ok (.fr false .none)
  | .kb b => .ok (.fr false (.bool b))
  | .ki i => .ok (.fr false (.int i))
  | .ks s => .ok (.fr false (.str s))
  | .lst es => (evEs Γ env es).bind fun rs => (stos rs).bind fun p => if fits p.2.length then .ok (.ow p.1 (.list p.2)) else .bad
  | .tup es => (evEs Γ env es).bind fun rs => (stos rs).bind fun p => if fits p.2.length then .ok (.fr p.1 (.tuple p.2)) else .bad
  | .dK0 => .ok (.ow false (.dict []))
  | .bin op a b => (evE Γ env a).bind fun x => (evE Γ env b).bind fun y => lift (x.m || y.m) (semBin op x.d y.d)
  | .neg a => (evE Γ env a).bind fun x => match x.d with
    | .int i => .ok (.fr false (.int (-i)))
    | _ => .bad
  | .cmp op a b => (evE Γ env a).bind fun x => (evE Γ env b).bind fun y => liftB (semCmp op x.d y.d)
  | .chn op op2 a b c => (evE Γ env a).bind fun x => (evE Γ env b).bind fun y => match semCmp op x.d y.d with
    | some true => (evE Γ env c).bind fun z => liftB (semCmp op2 y.d z.d)
    | some false => .ok (.fr false (.bool false))
    | none => .bad
  | .bop con es => (evB Γ env con es).bind fun b => .ok (.fr false (.bool b))
  | .not_ a => (evE Γ env a).bind fun x => (truth x).bind fun t => .ok (.fr false (.bool (!t)))
  | .ite c a b => (evE Γ env c).bind fun x => (truth x).bind fun t => if t then evE Γ env a else evE Γ env b
  | .ix a i => (evE Γ env a).bind fun x => (evE Γ env i).bind fun y => lift x.m ((semIx x.d y.d).map fun d => (false, d))
  | .sl a lo hi => (evE Γ env a).bind fun x => (evO Γ env lo).bind fun l => (evO Γ env hi).bind fun h => lift x.m (semSl x.d l h)
  | .bi f es => (evEs Γ env es).bind fun rs => lift (anyM rs) (semBi f (rs.map Rv.d))
  | .isi a T => (evE Γ env a).bind fun x => liftB (semIsi x.d T)
  | .mt o f es => (evE Γ env o).bind fun x => if (isStr x.d).isSome then (evEs Γ env es).bind fun rs => lift (x.m || anyM rs) (semMt x.d f (rs.map Rv.d)) else .bad
  | .call f es => match Γ f with
    | some (n, g) => (evEs Γ env es).bind fun rs => if rs.length = n then (g (rs.map Rv.d)).bind (ans (rs.any isBo)) else .bad
    | none => .bad
  | .lc g it c elt => (evI Γ env it).bind fun p => (lcR (fun d => noErr ((bindG g p.1 d env).bind fun env' => (evC Γ env' c).bind fun t => if t then ((evE Γ env' elt).bind sto).bind (fun q => .ok (some q)) else .ok none)) p.2).bind fun q =>
      if fits p.2.length then .ok (.ow q.1 (.list q.2)) else .bad
  | .lr a b => (evO Γ env a).bind fun x => (evO Γ env b).bind fun y => match x, y with
    | some n, none => if sm n && decide (n.toNat ≤ 2 ^ 24) then .ok (.ow false (.list (rngD 0 n.toNat))) else .bad
    | some i, some j => if sm i && sm j && decide ((j - i).toNat ≤ 2 ^ 24) then .ok (.ow false (.list (rngD i (j - i).toNat))) else .bad
    | _, _ => .bad
  | .rvl a => (evE Γ env a).bind fun x => match x.d with
    | .list ds => .ok (.ow x.m (.list ds.reverse))
    | _ => .bad
  | .rep a y z => (evE Γ env a).bind fun x => match x.d with
    | .str t => if t.length + (t.length + 1) * z.length ≤ 16777216 then .ok (.fr false (.str (Txt.replace t y z))) else .bad
    | _ => .bad
  | .dgt i k d => (getSl env i).bind fun x => match x.d with
    | .dict es => (evE Γ env k).bind fun y => (evE Γ env d).bind fun z => match y.d with
      | .str key => match getS es key with
        | some v => .ok (mk x.m false v)
        | none => if isBo z then .bad else .ok z
      | _ => .bad
    | _ => .bad
  | .lix a b => (evE Γ env a).bind fun x => match x.d with
    | .list ds => (evE Γ env b).bind fun y => match semLix (.list ds) y.d with
      | some j => .ok (.fr false (.int j))
      | none => .bad
    | _ => .bad
  | .srk a f => match Γ f with
    | some (n, g) => if n = 1 then (evE Γ env a).bind fun x => match x.d with
      | .list ds => (keysR g ds).bind fun ks => .ok (.ow x.m (.list ((srtK (ks.zip ds)).map (·.2))))
      | _ => .bad else .bad
    | none => .bad
def evEs (Γ : FT) (env : List Sl) : MEs → R (List Rv)
  | .nil => .ok []
  | .cons e es => (evE Γ env e).bind fun x => (evEs Γ env es).bind fun xs => .ok (x :: xs)
def evB (Γ : FT) (env : List Sl) (con : Bool) : MEs → R Bool
  | .nil => .bad
  | .cons e .nil => (evE Γ env e).bind truth
  | .cons e es => ((evE Γ env e).bind truth).bind fun t => if t = con then evB Γ env con es else .ok t
def evO (Γ : FT) (env : List Sl) : MO → R (Option Int)
  | .no => .ok none
  | .so e => (evE Γ env e).bind fun x => match x.d with
    | .int i => .ok (some i)
    | _ => .bad
def evC (Γ : FT) (env : List Sl) : MO → R Bool
  | .no => .ok true
  | .so e => (evE Γ env e).bind truth
def evI (Γ : FT) (env : List Sl) : MI → R (Bool × List D)
  | .e a => (evE Γ env a).bind fun x => if isBo x then .bad else match itemsOf x.d with
    | some ds => .ok (x.m, ds)
    | none => .bad
  | .r1 a => (evE Γ env a).bind fun x => match x.d with
    | .int n => if sm n then .ok (false, rngD 0 n.toNat) else .bad
    | _ => .bad
  | .r2 a b => (evE Γ env a).bind fun x => (evE Γ env b).bind fun y => match x.d, y.d with
    | .int i, .int j => if sm i && sm j then .ok (false, rngD i (j - i).toNat) else .bad
    | _, _ => .bad
  | .r3 a b c => (evE Γ env a).bind fun x => (evE Γ env b).bind fun y => (evE Γ env c).bind fun z => match x.d, y.d, z.d with
    | .int i, .int j, .int k => if sm i && sm j && decide (k = -1) then .ok (false, rngC i (-1) (i - j).toNat) else .bad
    | _, _, _ => .bad
  | .zip a b => (evE Γ env a).bind fun x => (evE Γ env b).bind fun y => if isBo x || isBo y then .bad else match itemsOf x.d, itemsOf y.d with
    | some ds, some es => .ok (x.m || y.m, List.zipWith (fun d e => .tuple [d, e]) ds es)
    | _, _ => .bad
  | .zip3 a b c => (evE Γ env a).bind fun x => (evE Γ env b).bind fun y => (evE Γ env c).bind fun z => if isBo x || isBo y || isBo z then .bad else match itemsOf x.d, itemsOf y.d, itemsOf z.d with
    | some ds, some es, some fs => .ok (x.m || y.m || z.m, List.zipWith (fun d p => match p with | (e, f) => .tuple [d, e, f]) ds (es.zip fs))
    | _, _, _ => .bad
  | .enum a => (evE Γ env a).bind fun x => if isBo x then .bad else match x.d with
    | .list ds => .ok (x.m, enumD 0 ds)
    | .str z => .ok (x.m, enumD 0 (z.cps.toList.map fun c => .str ⟨#[c]⟩))
    | _ => .bad
  | .rev a => (evE Γ env a).bind fun x => if isBo x then .bad else match x.d with
    | .list ds => .ok (x.m, ds.reverse)
    | _ => .bad
end

inductive Fl where
  | bad
  | err (x : Str)
  | next (env : List Sl)
  | ret (r : Rv)
  | brk (env : List Sl)
  | cnt (env : List Sl)
def Fl.of {α : Type} (r : R α) (f : α → Fl) : Fl := match r with
  | .bad => .bad
  | .err x => .err x
  | .ok a => f a
def Fl.then (a : Fl) (f : List Sl → Fl) : Fl := match a with
  | .next env => f env
  | a => a
def setSl (env : List Sl) (i : Nat) (s : Sl) : Fl := if i < env.length then .next (env.set i s) else .bad
def put1 (own : Bool) (i : Nat) (env : List Sl) : Rv → Fl
  | .fr m d => if own then .bad else setSl env i (.fr m d)
  | .ow m d => if own then setSl env i (.ow m d) else setSl env i (.fr m d)
  | .bo _ _ => .bad
/-- a loop over items -/
def forR (f : D → List Sl → Fl) : List D → List Sl → Fl
  | [], env => .next env
  | d :: ds, env => match f d env with
    | .next e => forR f ds e
    | .cnt e => forR f ds e
    | .brk e => .next e
    | a => a
def whlR (c : List Sl → R Bool) (f : List Sl → Fl) : Nat → List Sl → Fl
  | 0, _ => .bad
  | n + 1, env => .of (c env) fun t => if t then match f env with
    | .next e => whlR c f n e
    | .cnt e => whlR c f n e
    | .brk e => .next e
    | a => a else .next env
/-- texts given to slots -/
def setZ : List (Nat × Str) → List Sl → List Sl
  | [], env => env
  | p :: l, env => setZ l (env.set p.1 (.fr false (.str p.2)))
def callR (Γ : FT) (env : List Sl) (f : Str) (es : MEs) : R Rv := match Γ f with
  | some (n, g) => (noErr (evEs Γ env es)).bind fun rs => if rs.length = n then (g (rs.map Rv.d)).bind (ans (rs.any isBo)) else .bad
  | none => .bad
def evT (Γ : FT) : TB → List Sl → Fl
  | .ex f es, env => .of (callR Γ env f es) fun _ => .next env
  | .st i own f es, env => .of (callR Γ env f es) (put1 own i env)
  | .if_ c a b, env => .of (noErr ((evE Γ env c).bind truth)) fun t => if t then evT Γ a env else evT Γ b env
def tryR (tb : List (Str × List (Nat × Str))) (n : Nat) (env : List Sl) (f : Fl) : Fl := match f with
  | .next e => .next e
  | .err x => match tb.lookup x with
    | some l => if n < env.length then .next ((setZ l (env.set n .no)).set n .no) else .bad
    | none => .bad
  | _ => .bad
def frzSl : Sl → Option Sl
  | .ow m d => some (.fr m d)
  | _ => none
mutual
def evS (Γ : FT) (fuel : Nat) : MS → List Sl → Fl
  | .skip, env => .next env
  | .set i e own, env => .of (evE Γ env e) (put1 own i env)
  | .unp l e, env => .of (evE Γ env e) fun x => if isBo x then .bad else match x.d with
    | .tuple ds => .of (setAll x.m l ds env) .next
    | .list ds => .of (setAll x.m l ds env) .next
    | _ => .bad
  | .par i j a b, env => .of (evEs Γ env (.cons a (.cons b .nil))) fun rs => .of (stos rs) fun p => .of (setAll p.1 [i, j] p.2 env) .next
  | .ret e, env => .of (evE Γ env e) fun x => if isBo x then .bad else .ret x
  | .retN, _ => .ret (.fr false .none)
  | .reto i, env => match env[i]? with
    | some (.ow m d) => .ret (.ow m d)
    | _ => .bad
  | .ife c a b, env => .of ((evE Γ env c).bind truth) fun t => if t then evSs Γ fuel a env else evSs Γ fuel b env
  | .for_ g it b, env => .of (evI Γ env it) fun p => forR (fun d e => .of (bindG g p.1 d e) fun e' => evSs Γ fuel b e') p.2 env
  | .whl c b, env => whlR (fun e => (evE Γ e c).bind truth) (fun e => evSs Γ fuel b e) fuel env
  | .exp e, env => .of (evE Γ env e) fun _ => .next env
  | .app i e, env => match env[i]? with
    | some (.ow m (.list ds)) => .of (evE Γ env e) fun x => .of (sto x) fun p => if decide (ds.length < sizeLine) then .next (env.set i (.ow (m || p.1) (.list (ds ++ [p.2])))) else .bad
    | _ => .bad
  | .ext i e, env => match env[i]? with
    | some (.ow m (.list ds)) => .of (evE Γ env e) fun x => match x.d with
      | .list es => if fits (ds.length + es.length) then .next (env.set i (.ow (m || x.m) (.list (ds ++ es)))) else .bad
      | _ => .bad
    | _ => .bad
  | .put i k e, env => .of (evE Γ env e) fun x => .of (sto x) fun p => match env[i]? with
    | some (.ow m (.list ds)) => .of (evE Γ env k) fun y => match y.d with
      | .int n => match ixN ds.length n with
        | some j => .next (env.set i (.ow (m || p.1) (.list (ds.set j p.2))))
        | none => .bad
      | _ => .bad
    | _ => .bad
  | .dput i k e, env => .of (evE Γ env e) fun x => .of (sto x) fun p => match env[i]? with
    | some (.ow m (.dict es)) => .of (evE Γ env k) fun y => match y.d with
      | .str key => if !hasS es key && decide (es.length < sizeLine) then .next (env.set i (.ow (m || p.1) (.dict (es ++ [(.str key, p.2)])))) else .bad
      | _ => .bad
    | _ => .bad
  | .ins i k e, env => match env[i]? with
    | some (.ow m (.list ds)) => .of (evE Γ env k) fun y => match y.d with
      | .int n => .of (evE Γ env e) fun x => .of (sto x) fun p => if decide (ds.length < sizeLine) && decide (0 ≤ n) && decide (n < 2 ^ 63) then .next (env.set i (.ow (m || p.1) (.list (ds.take n.toNat ++ [p.2] ++ ds.drop n.toNat)))) else .bad
      | _ => .bad
    | _ => .bad
  | .popS x i, env => match env[i]? with
    | some (.ow m (.list ds)) => match ds[ds.length - 1]? with
      | some d => if i = x then .bad else setSl (env.set i (.ow m (.list ds.dropLast))) x (.fr m d)
      | none => .bad
    | _ => .bad
  | .popI x i k, env => match env[i]? with
    | some (.ow m (.list ds)) => .of (evE Γ env k) fun y => match y.d with
      | .int n => if sm n then match ixN ds.length n with
        | some j => match ds[j]? with
          | some d => if i = x then .bad else setSl (env.set i (.ow m (.list (ds.eraseIdx j)))) x (.fr m d)
          | none => .bad
        | none => .bad else .bad
      | _ => .bad
    | _ => .bad
  | .raise_ x _, _ => .err x
  | .mov i j, env => match env[j]? with
    | some (.ow m d) => if i < env.length ∧ i ≠ j then .next ((env.set i (.ow m d)).set j .no) else .bad
    | _ => .bad
  | .try_ b tb n _, env => tryR tb n env (evT Γ b env)
  | .brk, env => .brk env
  | .cnt, env => .cnt env
  | .never, _ => .bad
def evSs (Γ : FT) (fuel : Nat) : MSs → List Sl → Fl
  | .nil, env => .next env
  | .cons s r, env => (evS Γ fuel s env).then fun e => evSs Γ fuel r e
  | .frz i r, env => match env[i]? with
    | some (.ow m d) => evSs Γ fuel r (env.set i (.fr m d))
    | _ => .bad
end
/-- a def: how many slots, its body -/
structure MF where
  slots : Nat
  body : MSs
def startE (n : Nat) (ds : List D) : List Sl := ds.map (fun d => .fr (!imm d) d) ++ List.replicate (n - ds.length) .no
def runF (Γ : FT) (fuel : Nat) (f : MF) (ds : List D) : R Rv :=
  match evSs Γ fuel f.body (startE f.slots ds) with
  | .bad => .bad
  | .err x => .err x
  | .next _ => .ok (.fr false .none)
  | .ret r => .ok r
  | .brk _ => .bad
  | .cnt _ => .bad
end En
set_option Elab.async false
set_option linter.all false
set_option maxRecDepth 100000
set_option maxHeartbeats 4000000
namespace En
open PySem PySem.Spec PyProof.Rows L2

theorem zn_dt {H : Hp} {L : AS} {z : V} {d : D} (h : Dt H L z d) : Zn H L H z false d := ⟨Same.refl _, by simpa using h⟩
theorem zn_new {H : Hp} {L : AS} {p : Addr} {xs : List V} {ds : List D} (hp : H p = none) (h : Dts H L xs ds) : Zn H L (upd H p (.lst xs)) (.ref p) true (.list ds) :=
  ⟨same_new hp, by rw [if_pos rfl]; exact ⟨p, xs, ds, rfl, hp, rfl, upd_same, dts_new hp h⟩⟩
theorem zn_tup {H : Hp} {L : AS} {p : Addr} {xs : List V} {ds : List D} (hp : H p = none) (h : Dts H L xs ds) : Zn H L (upd H p (.tup xs)) (.ref p) false (.tuple ds) :=
  ⟨same_new hp, by rw [if_neg (by simp)]; exact .tup (.inl upd_same) (sm_dts (same_new hp) h)⟩
theorem Dts.flat {H : Hp} {L : AS} {xs : List V} {ds : List D} (h : Dts H L xs ds) : ∀ k : Nat, Dts H L (List.replicate k xs).flatten (List.replicate k ds).flatten
  | 0 => by simpa using Dts.nil
  | k + 1 => by
    rw [List.replicate_succ, List.replicate_succ, List.flatten_cons, List.flatten_cons]
    exact h.append (h.flat k)
theorem fits_le {n : Nat} (h : fits n = true) : n ≤ sizeLine := of_decide_eq_true h
theorem Cn.isc {H : Hp} {L : AS} {x : V} {d : D} {v : V} (h : Cn H L x d) (e : scV d = some v) : x = v := by
  cases h <;> simp [scV] at e <;> exact e
theorem Cn.dt_sc {H : Hp} {L L' : AS} {x : V} {d : D} (h : Cn H L x d) (e : sc d = true) : Dt H L' x d := by
  cases h <;> simp [sc] at e
  · exact .non
  · exact .bl _
  · exact .int _
  · exact .str _

section
variable {X : Cx} {pins : List (Addr × Obj)} {σ : L2.St} {H : Hp} {s : Shared}
theorem lstR {l : Addr} {xs : List V} (I : Inv X pins σ H s) (hH : Rd H l (.lst xs)) : xs.length ≤ sizeLine ∧ ∃ (its : List Value) (n : Nat), Vals xs its ∧ xs.length = its.length ∧ s.heap.get? l = some { cls := .type "list", data := .seq its.toArray n } := by
  obtain ⟨z, its, n, r, e⟩ := hH.ok I.hok
  exact ⟨z, its, n, r, r.length, e⟩
end
section
variable {X : Cx}
def rCatR : R2 := fun x y H Q => ∃ l b xs zs, x = .ref l ∧ y = .ref b ∧ Rd H l (.lst xs) ∧ Rd H b (.lst zs) ∧ xs.length + zs.length ≤ sizeLine ∧ ∀ p, H p = none → Q (.ref p) (upd H p (.lst (xs ++ zs)))
theorem op_catR : OpR X (binaryOp .Add) rCatR := by
  intro pins s σ H x y v u Q I rx ry h
  obtain ⟨l, b, xs, zs, rfl, rfl, hH, hB, hz, q⟩ := h
  cases rx
  cases ry
  obtain ⟨z, its, n, r, hl, e⟩ := lstR I hH
  obtain ⟨z2, its2, n2, r2, hl2, e2⟩ := lstR I hB
  refine PySem.P.add_list e e2 ?_ (by rw [List.size_toArray, List.size_toArray]; omega)
  have ea : its.toArray ++ its2.toArray = (its ++ its2).toArray := by simp
  rw [ea]
  exact ⟨.ref _, _, I.lnew (t' := s.toks) (r.append r2) (by rw [List.length_append]; omega), rfl, q _ I.fresh⟩
def rRepR : R2 := fun x y H Q => ∃ l k xs, x = .ref l ∧ y = .int k ∧ Rd H l (.lst xs) ∧ -(2 ^ 63) ≤ k ∧ k < 2 ^ 63 ∧ xs.length * k.toNat ≤ sizeLine ∧
  ∀ p, H p = none → Q (.ref p) (upd H p (.lst (List.replicate k.toNat xs).flatten))
theorem op_repR : OpR X (binaryOp .Mult) rRepR := by
  intro pins s σ H x y v u Q I rx ry h
  obtain ⟨l, k, xs, rfl, rfl, hH, h1, h2, hz, q⟩ := h
  cases rx
  obtain ⟨t, rfl⟩ := ry
  obtain ⟨z, its, n, r, hl, e⟩ := lstR I hH
  have hlen : its.toArray.size * k.toNat ≤ sizeLine := by rw [List.size_toArray, ← hl]; exact hz
  have hcap : ¬ its.toArray.size * k.toNat > (2 ^ 63 - 1) / 8 := by
    have : (sizeLine : Nat) ≤ (2 ^ 63 - 1) / 8 := by decide
    omega
  have hfit : ¬ (!Builtin.List.listFitsIndex k) = true := by
    rw [fitsIndex_both h1 h2]
    exact Bool.false_ne_true
  have hlong : ¬ Builtin.List.listTooLong (its.toArray.size * k.toNat) = true := by
    rw [notLongL hlen]
    exact Bool.false_ne_true
  have hnew : List.foldl (fun x1 x2 => x1 ++ x2) #[] (List.replicate (if its.toArray.isEmpty = true then 0 else k.toNat) its.toArray) = (List.replicate k.toNat its).flatten.toArray := by
    have f0 : ∀ m : Nat, List.foldl (fun x1 x2 => x1 ++ x2) #[] (List.replicate m its.toArray) = (List.replicate m its).flatten.toArray := fun m => by
      have := foldl_rep its m []
      rw [List.nil_append] at this
      exact this
    rw [f0]
    cases its with
    | nil => simp
    | cons a r' => rw [if_neg (by simp)]
  refine wpAny_binaryOp_repeat_ref (T := "list") (U := "int") (by decide) ⟨_, e, rfl⟩ (fun s' => typeIs_int s' k t) noFill_list_mul F.fills_int_mul F.slot_int_rmul repeat_list F.slot_int_index.lookup
    (call_meets F.slot_int_rmul (typeIs_int s k t) F.entry_int_rmul (F.args_int_rmul_2 _ _) (int___rmul___int_list k t l its.toArray n)
      ⟨e, rfl, ⟨_, e, rfl⟩, call_meets F.slot_list_mul ⟨_, e, rfl⟩ F.entry_list_mul (F.args_list_mul_2 _ _) (AutoListH.list___mul___list_int_3 l its.toArray n k t hfit hcap hlong) ⟨e, ?_⟩⟩)
  rw [hnew]
  exact ⟨.ref _, _, I.lnew (t' := s.toks) (r.rep k.toNat) (by rw [PyProof.Rows.lm_len_rep_flat, Nat.mul_comm]; exact hz), rfl, q _ I.fresh⟩
theorem foldl_arr {α : Type} (a : Array α) : ∀ (k : Nat) (acc : Array α), (List.foldl (· ++ ·) acc (List.replicate k a)).toList = acc.toList ++ (List.replicate k a.toList).flatten
  | 0, acc => by simp
  | k + 1, acc => by
    rw [List.replicate_succ, List.foldl_cons, foldl_arr a k, List.replicate_succ, List.flatten_cons, Array.toList_append, List.append_assoc]
def rMulS : R2 := fun x y H Q => ∃ z k, x = .str z ∧ y = .int k ∧ -(2 ^ 63) ≤ k ∧ k < 2 ^ 63 ∧ z.length * k.toNat ≤ sizeLine ∧ Q (.str ⟨((List.replicate k.toNat z.cps.toList).flatten).toArray⟩) H
theorem op_mulS : OpR X (binaryOp .Mult) rMulS := by
  intro pins s σ H x y v u Q I rx ry h
  obtain ⟨z, k, rfl, rfl, h1, h2, hz, q⟩ := h
  obtain ⟨t, rfl⟩ := rx
  obtain ⟨t', rfl⟩ := ry
  have e : (sizeLine : Nat) = 16777216 := sizeLine_eq
  refine PySem.P.mul_str ?_ (fun a b => ?_) (fun a b => ?_) ?_
  · have a1 : ¬ k < -(2 ^ 63) := by omega
    have a2 : ¬ k ≥ 2 ^ 63 := by omega
    rw [decide_eq_false a1, decide_eq_false a2]
    rfl
  · have hk : 0 < k := by omega
    have hn : ((k.toNat : Nat) : Int) = k := Int.toNat_of_nonneg (by omega)
    have hm : (z.length : Int) * k ≤ 16777216 := by
      rw [← hn]
      have : ((z.length * k.toNat : Nat) : Int) ≤ (16777216 : Nat) := by
        rw [← e]
        exact Int.ofNat_le.mpr hz
      simpa using this
    intro hc
    have h3 : ((2 ^ 63 - 1 : Int) / k + 1) * k > 2 ^ 63 - 1 := by
      have := Int.lt_ediv_add_one_mul_self (2 ^ 63 - 1) hk
      exact this
    have h4 : ((2 ^ 63 - 1 : Int) / k + 1) * k ≤ (z.length : Int) * k := Int.mul_le_mul_of_nonneg_right (by omega) (by omega)
    omega
  · unfold PySem.Builtin.Str.tooLong
    rw [e] at hz
    first
      | exact decide_eq_false (by omega)
      | (simp; omega)
  · by_cases hk : k < 1
    · rw [if_pos hk]
      have e0 : k.toNat = 0 := by omega
      rw [e0] at q
      refine ⟨by decide, .str _, H, I.tok _, ⟨_, rfl⟩, ?_⟩
      exact q
    · rw [if_neg hk]
      by_cases hc : (k == 1 || z.length == 0) = true
      · rw [if_pos hc]
        have ez : (⟨((List.replicate k.toNat z.cps.toList).flatten).toArray⟩ : Str) = z := by
          simp only [Bool.or_eq_true, beq_iff_eq] at hc
          rcases hc with hc | hc
          · subst hc
            simp
          · have : z.cps.toList = [] := by
              have h0 : z.cps.size = 0 := hc
              simpa using h0
            rw [this]
            have hzz : z = ⟨#[]⟩ := by
              cases z with
              | mk c =>
                have : c = #[] := by simpa using this
                rw [this]
            rw [hzz]
            simp
        rw [ez] at q
        exact ⟨.str _, H, I, ⟨_, rfl⟩, q⟩
      · rw [if_neg hc]
        have ez : (⟨((List.replicate k.toNat z.cps.toList).flatten).toArray⟩ : Str) = ⟨(List.replicate k.toNat z.cps).foldl (· ++ ·) #[]⟩ := by
          congr 1
          apply Array.toList_inj.mp
          rw [foldl_arr]
          simp
        rw [ez] at q
        refine ⟨?_, .str _, H, I.tok _, ⟨_, rfl⟩, q⟩
        show _ ≤ _
        have : (⟨(List.replicate k.toNat z.cps).foldl (· ++ ·) #[]⟩ : Str).length = z.length * k.toNat := by
          rw [← ez]
          show ((List.replicate k.toNat z.cps.toList).flatten).toArray.size = _
          simp [Str.length, Nat.mul_comm]
        rw [this]
        omega

/-- a binary operator on data -/
def rB (f : D → D → Option (Bool × D)) : R2 := fun x y H Q => ∃ L d e nw z, Cn H L x d ∧ Cn H L y e ∧ f d e = some (nw, z) ∧ ∀ v H', Zn H L H' v nw z → Q v H'
theorem bin_ok (op : Operator) : OpR X (binaryOp op) (rB (semBin op)) := by
  intro pins s σ H x y v u Q I rx ry h
  obtain ⟨L, d, e, nw, z, cx, cy, hf, q⟩ := h
  cases op with
  | Add =>
    cases cx <;> cases cy <;> simp only [semBin, reduceCtorEq] at hf
    · cases hf
      exact op_add pins s σ H _ _ _ _ _ I rx ry ⟨_, _, rfl, rfl, q _ _ (zn_dt (.int _))⟩
    · split at hf
      · rename_i hz
        cases hf
        exact op_add_str pins s σ H _ _ _ _ _ I rx ry ⟨_, _, rfl, rfl, fits_le hz, q _ _ (zn_dt (.str _))⟩
      · exact nomatch hf
    · rename_i r1 s1 _ _ _ r2 s2
      split at hf
      · rename_i hz
        cases hf
        exact op_catR pins s σ H _ _ _ _ _ I rx ry ⟨_, _, _, _, rfl, rfl, r1, r2, by rw [s1.length, s2.length]; exact fits_le hz, fun p hp => q _ _ (zn_new hp (s1.append s2))⟩
      · exact nomatch hf
    · rename_i r1 s1 _ _ _ r2 s2
      split at hf
      · rename_i hz
        cases hf
        refine op_catA pins s σ H _ _ _ _ _ I rx ry ⟨_, _, _, _, rfl, rfl, .inl r1, .inl r2, by rw [s1.length, s2.length]; exact fits_le hz, fun e0 => ?_, fun _ e0 => ?_, fun _ _ p hp => q _ _ (zn_tup hp (s1.append s2))⟩
        · subst e0
          cases s1
          exact q _ _ (zn_dt (.tup r2 s2))
        · subst e0
          cases s2
          rw [List.append_nil] at q
          exact q _ _ (zn_dt (.tup r1 s1))
      · exact nomatch hf
  | Sub =>
    cases cx <;> cases cy <;> simp only [semBin, reduceCtorEq] at hf
    cases hf
    exact op_sub pins s σ H _ _ _ _ _ I rx ry ⟨_, _, rfl, rfl, q _ _ (zn_dt (.int _))⟩
  | Mult =>
    cases cx <;> cases cy <;> simp only [semBin, reduceCtorEq] at hf
    · split at hf
      · rename_i hz
        cases hf
        simp only [Bool.or_eq_true, Bool.and_eq_true, decide_eq_true_eq] at hz
        exact op_mul pins s σ H _ _ _ _ _ I rx ry ⟨_, _, rfl, rfl, hz, q _ _ (zn_dt (.int _))⟩
      · exact nomatch hf
    · split at hf
      · rename_i hz
        cases hf
        simp only [Bool.and_eq_true, decide_eq_true_eq] at hz
        exact op_mulS pins s σ H _ _ _ _ _ I rx ry ⟨_, _, rfl, rfl, hz.1.1, hz.1.2, fits_le hz.2, q _ _ (zn_dt (.str _))⟩
      · exact nomatch hf
    · rename_i r1 s1 _
      split at hf
      · rename_i hz
        cases hf
        simp only [Bool.and_eq_true, decide_eq_true_eq] at hz
        exact op_repR pins s σ H _ _ _ _ _ I rx ry ⟨_, _, _, rfl, rfl, r1, hz.1.1, hz.1.2, by rw [s1.length]; exact fits_le hz.2, fun p hp => q _ _ (zn_new hp (s1.flat _))⟩
      · exact nomatch hf
  | FloorDiv =>
    cases cx <;> cases cy <;> simp only [semBin, reduceCtorEq] at hf
    split at hf
    · rename_i hz
      cases hf
      simp only [Bool.and_eq_true, decide_eq_true_eq] at hz
      exact op_fdiv pins s σ H _ _ _ _ _ I rx ry ⟨_, _, rfl, rfl, hz, q _ _ (zn_dt (.int _))⟩
    · exact nomatch hf
  | Mod =>
    cases cx <;> cases cy <;> simp only [semBin, reduceCtorEq] at hf
    split at hf
    · rename_i hz
      cases hf
      simp only [decide_eq_true_eq] at hz
      exact op_mod pins s σ H _ _ _ _ _ I rx ry ⟨_, _, rfl, rfl, hz, q _ _ (zn_dt (.int _))⟩
    · exact nomatch hf
  | Pow =>
    cases cx <;> cases cy <;> simp only [semBin, reduceCtorEq] at hf
    split at hf
    · rename_i hz
      cases hf
      simp only [Bool.and_eq_true, decide_eq_true_eq] at hz
      exact op_pow pins s σ H _ _ _ _ _ I rx ry ⟨_, _, rfl, rfl, ⟨hz.1.1, hz.1.2, hz.2⟩, q _ _ (zn_dt (.int _))⟩
    · exact nomatch hf
  | _ => simp [semBin] at hf

/-! ### comparisons -/
def rC (f : D → D → Option Bool) : R2 := fun x y H Q => ∃ L d e b, Cn H L x d ∧ Cn H L y e ∧ f d e = some b ∧ Q (.bl b) H
theorem eqO_cases {d e : D} {b : Bool} (h : eqO d e = some b) : (∃ x y, scV d = some x ∧ scV e = some y ∧ scal x y = true ∧ b = decide (x = y)) ∨ (shp d = true ∧ shp e = true ∧ b = PyData.eqv d e) := by
  unfold eqO at h
  split at h
  · rename_i x y e1 e2
    split at h
    · rename_i hs
      cases h
      exact .inl ⟨x, y, e1, e2, hs, rfl⟩
    · split at h
      · rename_i hz
        cases h
        simp only [Bool.and_eq_true] at hz
        exact .inr ⟨hz.1, hz.2, rfl⟩
      · exact nomatch h
  · split at h
    · rename_i hz
      cases h
      simp only [Bool.and_eq_true] at hz
      exact .inr ⟨hz.1, hz.2, rfl⟩
    · exact nomatch h
theorem noD_shp {d : D} (h : shp d = true) : noD d = true := by
  unfold shp SeqAt.shaped at h
  simp only [Bool.and_eq_true] at h
  exact noD_of d h.1
theorem eq_ok (hu : X.A.units + 65 < cLine) : OpR X (compareOp .Eq) (rC eqO) := by
  intro pins s σ H x y v u Q I rx ry h
  obtain ⟨L, d, e, b, cx, cy, hf, q⟩ := h
  rcases eqO_cases hf with ⟨x', y', e1, e2, hs, rfl⟩ | ⟨s1, s2, rfl⟩
  · have := cx.isc e1
    subst this
    have := cy.isc e2
    subst this
    exact op_eq pins s σ H _ _ _ _ _ I rx ry ⟨hs, q⟩
  · exact op_eqD (by omega) pins s σ H _ _ _ _ _ I rx ry ⟨d, e, cx.dp (noD_shp s1), cy.dp (noD_shp s2), s1, s2, q⟩
theorem ne_ok (hu : X.A.units + 65 < cLine) : OpR X (compareOp .NotEq) (rC fun d e => (eqO d e).map (!·)) := by
  intro pins s σ H x y v u Q I rx ry h
  obtain ⟨L, d, e, b, cx, cy, hf, q⟩ := h
  have hf : (eqO d e).map (!·) = some b := hf
  cases h0 : eqO d e with
  | none => rw [h0] at hf; simp at hf
  | some b' =>
  rw [h0] at hf
  simp only [Option.map_some, Option.some.injEq] at hf
  subst hf
  rcases eqO_cases h0 with ⟨x', y', e1, e2, hs, rfl⟩ | ⟨s1, s2, rfl⟩
  · have := cx.isc e1
    subst this
    have := cy.isc e2
    subst this
    exact op_ne pins s σ H _ _ _ _ _ I rx ry ⟨hs, q⟩
  · exact op_neD (by omega) pins s σ H _ _ _ _ _ I rx ry ⟨d, e, cx.dp (noD_shp s1), cy.dp (noD_shp s2), s1, s2, q⟩
theorem flat_sc {H : Hp} {L : AS} {x : V} {d : D} (h : Dt H L x d) (e : sc d = true) : flatV x = true := by
  cases h <;> simp [sc] at e <;> rfl
theorem flats_sc {H : Hp} {L : AS} : ∀ {xs : List V} {ds : List D}, Dts H L xs ds → ds.all sc = true → xs.all flatV = true
  | [], _, h, _ => rfl
  | x :: xs, _, h, e => by
    cases h with
    | cons a b =>
      simp only [List.all_cons, Bool.and_eq_true] at e ⊢
      exact ⟨flat_sc a e.1, flats_sc b e.2⟩
theorem eqV_sc {H : Hp} {L L' : AS} {x y : V} {d e : D} (h : Dt H L x d) (k : Dt H L' y e) (e1 : sc d = true) (e2 : sc e = true) : eqV x y = PyData.eqv d e := by
  cases h <;> simp [sc] at e1 <;> cases k <;> simp [sc] at e2 <;> simp [eqV, PyData.eqv] <;> (try rfl)
theorem inV_sc {H : Hp} {L L' : AS} {x : V} {d : D} (h : Dt H L' x d) (e1 : sc d = true) : ∀ {xs : List V} {ds : List D}, Dts H L xs ds → ds.all sc = true → inV x xs = ds.any fun z => PyData.eqv z d
  | [], _, k, _ => by cases k; rfl
  | y :: ys, _, k, e => by
    cases k with
    | cons a b =>
      simp only [List.all_cons, Bool.and_eq_true] at e
      have ih := inV_sc h e1 b e.2
      unfold inV at ih ⊢
      rw [List.any_cons, List.any_cons, eqV_sc a h e.1 e1, ih]
end
end En
set_option Elab.async false
set_option linter.all false
set_option maxRecDepth 100000
set_option maxHeartbeats 4000000
namespace En
open PySem PySem.Spec PyProof.Rows L2
section
variable {X : Cx}
theorem toList_one {w : Str} {c : Nat} (h : w.cps.toList = [c]) : w = ⟨#[c]⟩ := by
  cases w with
  | mk a =>
    have h' : a.toList = [c] := h
    have : a = #[c] := Array.toList_inj.mp (by simpa using h')
    rw [this]
theorem inD_dp {H : Hp} {L : AS} {a : Addr} {xs : List V} {ds : List D} (r : Rd H a (.lst xs)) (s : Dts H L xs ds) (n : shp (.list ds) = true) : Dp X.K H (.ref a) (.list ds) :=
  Cn.dp (Cn.lst r s) (noD_shp n)
theorem key_is (k : Key) (z : Str) : isK (keyD k) z = decide (k = .inr z) := by
  cases k with
  | inl i => simp [keyD, isK]
  | inr y => simp [keyD, isK]
theorem has_val {kvs : List (Key × V)} {es : List (D × D)} (hk : es.map (·.1) = kvs.map (fun kv => keyD kv.1)) (z : Str) : hasS es z = (valV kvs (.inr z)).isSome := by
  unfold hasS
  rw [hk, List.any_map, ← valV_any]
  congr 1
  funext kv
  exact key_is kv.1 z
theorem get_val {H : Hp} {L : AS} (z : Str) : ∀ {kvs : List (Key × V)} {es : List (D × D)}, es.map (·.1) = kvs.map (fun kv => keyD kv.1) → Dvs H L (kvs.map (·.2)) es →
    (match getS es z with | some d => ∃ v, valV kvs (.inr z) = some v ∧ Dt H L v d | none => valV kvs (.inr z) = none)
  | [], [], _, _ => rfl
  | [], _ :: _, h, _ => by simp at h
  | _ :: _, [], h, _ => by simp at h
  | kv :: kvs, e :: es, h, hv => by
    simp only [List.map_cons, List.cons.injEq] at h
    cases hv with
    | cons t tl =>
      unfold getS
      rw [h.1, key_is]
      by_cases hc : kv.1 = .inr z
      · simp only [hc, decide_true, if_true]
        exact ⟨kv.2, valV_pos hc, t⟩
      · simp only [hc, decide_false, Bool.false_eq_true, if_false]
        rw [valV_neg hc]
        exact get_val z h.2 tl
theorem in_ok (hu : X.A.units + 65 < cLine) : OpR X (compareOp .In) (rC inO) := by
  intro pins s σ H x y v u Q I rx ry h
  obtain ⟨L, d, e, b, cx, cy, hf, q⟩ := h
  cases cy <;> simp only [inO, reduceCtorEq] at hf
  · cases cx <;> simp only [reduceCtorEq] at hf
    split at hf
    · rename_i z _ w c hw
      cases hf
      have := toList_one hw
      subst this
      exact op_in_sign pins s σ H _ _ _ _ _ I rx ry ⟨_, _, rfl, rfl, q⟩
    · exact nomatch hf
  · rename_i a xs ds r1 s1
    split at hf
    · rename_i hz
      cases hf
      simp only [Bool.and_eq_true] at hz
      have dx : Dt H L x d := cx.dt_sc hz.1
      have e1 := inV_sc dx hz.1 s1 hz.2
      refine op_in_seq pins s σ H _ _ _ _ _ I rx ry ⟨_, _, rfl, .inl (.inl r1), flat_sc dx hz.1, flats_sc s1 hz.2, ?_⟩
      rw [if_neg (by simp), e1]
      exact q
    · split at hf
      · rename_i hz
        cases hf
        simp only [Bool.and_eq_true] at hz
        exact op_inD hu pins s σ H _ _ _ _ _ I rx ry ⟨d, ds, cx.dp (noD_shp hz.1), inD_dp r1 s1 hz.2, hz.1, hz.2, q⟩
      · exact nomatch hf
  · rename_i a xs ds r1 s1
    split at hf
    · rename_i hz
      cases hf
      simp only [Bool.and_eq_true] at hz
      have dx : Dt H L x d := cx.dt_sc hz.1
      have e1 := inV_sc dx hz.1 s1 hz.2
      refine op_in_seq pins s σ H _ _ _ _ _ I rx ry ⟨_, _, rfl, .inr (.inl r1), flat_sc dx hz.1, flats_sc s1 hz.2, ?_⟩
      rw [if_neg (by simp), e1]
      exact q
    · exact nomatch hf
  · rename_i a kvs es r1 hk hv
    cases cx <;> simp only [reduceCtorEq] at hf
    rename_i z
    cases hf
    cases ry
    exact d_in (by omega) I (DGet.k (k := .inr z) r1) rx fun s' I' => ⟨.bl _, H, I', rfl, by rw [← has_val hk]; exact q⟩
theorem notIn_ok (hu : X.A.units + 65 < cLine) : OpR X (compareOp .NotIn) (rC fun d e => (inO d e).map (!·)) := by
  intro pins s σ H x y v u Q I rx ry h
  obtain ⟨L, d, e, b, cx, cy, hf', q⟩ := h
  have hf' : (inO d e).map (!·) = some b := hf'
  cases hf : inO d e with
  | none => rw [hf] at hf'; simp at hf'
  | some b' =>
  rw [hf] at hf'
  simp only [Option.map_some, Option.some.injEq] at hf'
  subst hf'
  cases cy <;> simp only [inO, reduceCtorEq] at hf
  · cases cx <;> simp only [reduceCtorEq] at hf
    split at hf
    · rename_i z _ w c hw
      cases hf
      have := toList_one hw
      subst this
      exact op_notIn_sign pins s σ H _ _ _ _ _ I rx ry ⟨_, _, rfl, rfl, q⟩
    · exact nomatch hf
  · rename_i a xs ds r1 s1
    split at hf
    · rename_i hz
      cases hf
      simp only [Bool.and_eq_true] at hz
      have dx : Dt H L x d := cx.dt_sc hz.1
      have e1 := inV_sc dx hz.1 s1 hz.2
      refine op_notIn_seq pins s σ H _ _ _ _ _ I rx ry ⟨_, _, rfl, .inl (.inl r1), flat_sc dx hz.1, flats_sc s1 hz.2, ?_⟩
      rw [if_pos rfl, e1]
      exact q
    · split at hf
      · rename_i hz
        cases hf
        simp only [Bool.and_eq_true] at hz
        exact op_notInD hu pins s σ H _ _ _ _ _ I rx ry ⟨d, ds, cx.dp (noD_shp hz.1), inD_dp r1 s1 hz.2, hz.1, hz.2, q⟩
      · exact nomatch hf
  · rename_i a xs ds r1 s1
    split at hf
    · rename_i hz
      cases hf
      simp only [Bool.and_eq_true] at hz
      have dx : Dt H L x d := cx.dt_sc hz.1
      have e1 := inV_sc dx hz.1 s1 hz.2
      refine op_notIn_seq pins s σ H _ _ _ _ _ I rx ry ⟨_, _, rfl, .inr (.inl r1), flat_sc dx hz.1, flats_sc s1 hz.2, ?_⟩
      rw [if_pos rfl, e1]
      exact q
    · exact nomatch hf
  · rename_i a kvs es r1 hk hv
    cases cx <;> simp only [reduceCtorEq] at hf
    rename_i z
    cases hf
    cases ry
    exact d_notIn (by omega) I (DGet.k (k := .inr z) r1) rx fun s' I' => ⟨.bl _, H, I', rfl, by rw [← has_val hk]; exact q⟩
theorem is_ok : OpR X (compareOp .Is) (rC isO) := by
  intro pins s σ H x y v u Q I rx ry h
  obtain ⟨L, d, e, b, cx, cy, hf, q⟩ := h
  cases cy <;> simp only [isO, reduceCtorEq] at hf
  · cases hf
    refine op_isN pins s σ H _ _ _ _ _ I rx ry ⟨rfl, ?_⟩
    cases cx <;> exact q
  · cases cx <;> simp only [reduceCtorEq] at hf
    cases hf
    exact op_isBl pins s σ H _ _ _ _ _ I rx ry ⟨_, _, rfl, rfl, q⟩
theorem isNot_ok : OpR X (compareOp .IsNot) (rC fun d e => (isO d e).map (!·)) := by
  intro pins s σ H x y v u Q I rx ry h
  obtain ⟨L, d, e, b, cx, cy, hf, q⟩ := h
  have hf : (isO d e).map (!·) = some b := hf
  cases cy <;> simp only [isO, reduceCtorEq, Option.map_none, Option.map_some] at hf
  · cases hf
    refine op_notN pins s σ H _ _ _ _ _ I rx ry ⟨rfl, ?_⟩
    cases cx <;> exact q
  · cases cx <;> simp only [reduceCtorEq, Option.map_none, Option.map_some] at hf
    cases hf
    exact op_notBl pins s σ H _ _ _ _ _ I rx ry ⟨_, _, rfl, rfl, q⟩
theorem cmp_ok (hu : X.A.units + 65 < cLine) (op : CmpOp) : OpR X (compareOp op) (rC (semCmp op)) := by
  cases op with
  | Eq => exact eq_ok hu
  | NotEq => exact ne_ok hu
  | In => exact in_ok hu
  | NotIn => exact notIn_ok hu
  | Is => exact is_ok
  | IsNot => exact isNot_ok
  | Lt =>
    intro pins s σ H x y v u Q I rx ry h
    obtain ⟨L, d, e, b, cx, cy, hf, q⟩ := h
    cases cx <;> cases cy <;> simp only [semCmp, reduceCtorEq] at hf
    cases hf
    exact op_lt pins s σ H _ _ _ _ _ I rx ry ⟨_, _, rfl, rfl, q⟩
  | LtE =>
    intro pins s σ H x y v u Q I rx ry h
    obtain ⟨L, d, e, b, cx, cy, hf, q⟩ := h
    cases cx <;> cases cy <;> simp only [semCmp, reduceCtorEq] at hf
    cases hf
    exact op_le pins s σ H _ _ _ _ _ I rx ry ⟨_, _, rfl, rfl, q⟩
  | Gt =>
    intro pins s σ H x y v u Q I rx ry h
    obtain ⟨L, d, e, b, cx, cy, hf, q⟩ := h
    cases cx <;> cases cy <;> simp only [semCmp, reduceCtorEq] at hf
    cases hf
    exact op_gt pins s σ H _ _ _ _ _ I rx ry ⟨_, _, rfl, rfl, q⟩
  | GtE =>
    intro pins s σ H x y v u Q I rx ry h
    obtain ⟨L, d, e, b, cx, cy, hf, q⟩ := h
    cases cx <;> cases cy <;> simp only [semCmp, reduceCtorEq] at hf
    cases hf
    exact op_ge pins s σ H _ _ _ _ _ I rx ry ⟨_, _, rfl, rfl, q⟩

/-! ### items, cuts -/
theorem atI_dts {H : Hp} {L : AS} {xs : List V} {ds : List D} {k : Int} {z : D} (s : Dts H L xs ds) (h : atI ds k = some z) : ∃ v, atI xs k = some v ∧ Dt H L v z := by
  unfold atI at h ⊢
  rw [s.length]
  cases e : ixN ds.length k with
  | none => rw [e] at h; exact nomatch h
  | some j =>
    rw [e] at h
    exact s.get h
def rI1 (f : D → D → Option D) : R2 := fun x y H Q => ∃ L d e z, Cn H L x d ∧ Cn H L y e ∧ f d e = some z ∧ ∀ v, Dt H L v z → Q v H
theorem ix_ok : IxR X (rI1 semIx) := by
  intro val sli pins s σ H x y v u Q I rx ry h hs
  obtain ⟨L, d, e, z, cx, cy, hf, q⟩ := h
  cases cx <;> cases cy <;> simp only [semIx, reduceCtorEq] at hf
  · split at hf
    · rename_i hz
      rename_i zz k
      cases ha : atI zz.cps.toList k with
      | none => rw [ha] at hf; simp at hf
      | some c =>
        rw [ha] at hf
        simp only [Option.map_some, Option.some.injEq] at hf
        subst hf
        exact ix_str val sli pins s σ H _ _ _ _ _ I rx ry ⟨_, _, _, rfl, rfl, fits_le hz, ha, q _ (.str _)⟩ hs
    · exact nomatch hf
  · rename_i r1 s1 k
    obtain ⟨v', e1, dv⟩ := atI_dts s1 hf
    exact ix_list val sli pins s σ H _ _ _ _ _ I rx ry ⟨_, _, _, _, rfl, rfl, .inl r1, e1, q _ dv⟩ hs
  · rename_i r1 s1 k
    obtain ⟨v', e1, dv⟩ := atI_dts s1 hf
    exact ix_tup val sli pins s σ H _ _ _ _ _ I rx ry ⟨_, _, _, _, rfl, rfl, .inl r1, e1, q _ dv⟩ hs
theorem cut_dts {H : Hp} {L : AS} {xs : List V} {ds : List D} (s : Dts H L xs ds) (lo hi : Option Int) : Dts H L (cutV xs lo hi) (cutL ds lo hi) := by
  unfold cutV cutL
  rw [s.length]
  exact (s.drop _).take _
def rSl2 : V → Option Int → Option Int → Hp → VK → Prop := fun x lo hi H Q => ∃ L d nw z, Cn H L x d ∧ semSl d lo hi = some (nw, z) ∧ ∀ v H', Zn H L H' v nw z → Q v H'
theorem cutL_whole {α : Type} {xs : List α} {lo hi : Option Int} (h : HT.sIx xs.length 0 lo = 0 ∧ HT.sIx xs.length xs.length hi = xs.length) : cutL xs lo hi = xs := by
  unfold cutL
  rw [h.1, h.2]
  simp
theorem sl_ok : SlR X rSl2 := by
  intro pins s σ H x v vl vu lo hi sl Q I rx hsl p1 p2 h
  obtain ⟨L, d, nw, z, cx, hf, q⟩ := h
  cases cx <;> simp only [semSl, reduceCtorEq] at hf
  · split at hf
    · rename_i zz hz
      cases hf
      refine sl_str pins s σ H _ v vl vu lo hi sl Q I rx hsl p1 p2 ⟨zz, rfl, fits_le hz, ?_⟩
      have e : cutS zz lo hi = ⟨(cutL zz.cps.toList lo hi).toArray⟩ := rfl
      rw [e]
      exact q _ _ (zn_dt (.str _))
    · exact nomatch hf
  · rename_i r1 s1
    cases hf
    exact sl_list pins s σ H _ v vl vu lo hi sl Q I rx hsl p1 p2 ⟨_, _, rfl, .inl r1, fun p hp => q _ _ (zn_new hp (cut_dts s1 lo hi))⟩
  · rename_i r1 s1
    cases hf
    refine sl_tupA pins s σ H _ v vl vu lo hi sl Q I rx hsl p1 p2 ⟨_, _, rfl, .inl r1, fun hw => ?_, fun _ p hp => q _ _ (zn_tup hp (cut_dts s1 lo hi))⟩
    rw [s1.length] at hw
    have e := cutL_whole hw
    rw [e] at q
    exact q _ _ (zn_dt (.tup r1 s1))

/-! ### built-in functions -/
inductive Cns (H : Hp) (L : AS) : List V → List D → Prop
  | nil : Cns H L [] []
  | cons {v : V} {vs : List V} {d : D} {ds : List D} : Cn H L v d → Cns H L vs ds → Cns H L (v :: vs) (d :: ds)
theorem ints_of {H : Hp} {L : AS} : ∀ {xs : List V} {ds : List D} {ns : List Int}, Dts H L xs ds → allO isInt ds = some ns → xs = ns.map V.int
  | _, [], _, h, e => by cases h; simp [allO] at e; subst e; rfl
  | _, d :: ds, _, h, e => by
    cases h with
    | cons a b =>
      cases a <;> simp only [allO, isInt, reduceCtorEq] at e
      cases e2 : allO isInt ds with
      | none => rw [e2] at e; exact nomatch e
      | some r =>
        rw [e2] at e
        cases e
        rw [ints_of b e2]
        rfl
theorem strs_of {H : Hp} {L : AS} : ∀ {xs : List V} {ds : List D} {ns : List Str}, Dts H L xs ds → allO isStr ds = some ns → xs = ns.map V.str
  | _, [], _, h, e => by cases h; simp [allO] at e; subst e; rfl
  | _, d :: ds, _, h, e => by
    cases h with
    | cons a b =>
      cases a <;> simp only [allO, isStr, reduceCtorEq] at e
      cases e2 : allO isStr ds with
      | none => rw [e2] at e; exact nomatch e
      | some r =>
        rw [e2] at e
        cases e
        rw [strs_of b e2]
        rfl
theorem bls_of {H : Hp} {L : AS} : ∀ {xs : List V} {ds : List D} {ns : List Bool}, Dts H L xs ds → allO isBl ds = some ns → xs = ns.map V.bl
  | _, [], _, h, e => by cases h; simp [allO] at e; subst e; rfl
  | _, d :: ds, _, h, e => by
    cases h with
    | cons a b =>
      cases a <;> simp only [allO, isBl, reduceCtorEq] at e
      cases e2 : allO isBl ds with
      | none => rw [e2] at e; exact nomatch e
      | some r =>
        rw [e2] at e
        cases e
        rw [bls_of b e2]
        rfl
theorem ints_dts {H : Hp} {L : AS} : ∀ ns : List Int, Dts H L (ns.map V.int) (ns.map PyData.int)
  | [] => .nil
  | _ :: ns => .cons (.int _) (ints_dts ns)
theorem strs_dts {H : Hp} {L : AS} : ∀ ns : List Str, Dts H L (ns.map V.str) (ns.map PyData.str)
  | [] => .nil
  | _ :: ns => .cons (.str _) (strs_dts ns)
theorem minF : ∀ (xs : List Int) (x : Int), (xs.foldl (fun a b => if b < a then b else a) x ∈ x :: xs) ∧ ∀ y ∈ x :: xs, xs.foldl (fun a b => if b < a then b else a) x ≤ y
  | [], x => by simp
  | z :: xs, x => by
    obtain ⟨h1, h2⟩ := minF xs (if z < x then z else x)
    rw [List.foldl_cons]
    generalize hm : xs.foldl (fun a b => if b < a then b else a) (if z < x then z else x) = m at h1 h2
    have h3 := h2 _ (List.mem_cons_self)
    refine ⟨?_, fun y hy => ?_⟩
    · rcases List.mem_cons.mp h1 with h | h
      · rw [h]
        split <;> simp
      · simp [h]
    · rcases List.mem_cons.mp hy with h | h
      · subst h
        split at h3 <;> omega
      · rcases List.mem_cons.mp h with h | h
        · subst h
          split at h3 <;> omega
        · exact h2 y (List.mem_cons_of_mem _ h)
theorem maxF : ∀ (xs : List Int) (x : Int), (xs.foldl (fun a b => if a < b then b else a) x ∈ x :: xs) ∧ ∀ y ∈ x :: xs, y ≤ xs.foldl (fun a b => if a < b then b else a) x
  | [], x => by simp
  | z :: xs, x => by
    obtain ⟨h1, h2⟩ := maxF xs (if x < z then z else x)
    rw [List.foldl_cons]
    generalize hm : xs.foldl (fun a b => if a < b then b else a) (if x < z then z else x) = m at h1 h2
    have h3 := h2 _ (List.mem_cons_self)
    refine ⟨?_, fun y hy => ?_⟩
    · rcases List.mem_cons.mp h1 with h | h
      · rw [h]
        split <;> simp
      · simp [h]
    · rcases List.mem_cons.mp hy with h | h
      · subst h
        split at h3 <;> omega
      · rcases List.mem_cons.mp h with h | h
        · subst h
          split at h3 <;> omega
        · exact h2 y (List.mem_cons_of_mem _ h)
theorem sortI_uniq {ns ns' : List Int} (p : ns'.Perm ns) (w : ns'.Pairwise (· ≤ ·)) : ns' = sortI ns := by
  have p2 : (sortI ns).Perm ns := List.mergeSort_perm _ _
  have w2 : (sortI ns).Pairwise (· ≤ ·) := by
    have := List.pairwise_mergeSort (le := fun a b : Int => decide (a ≤ b)) (fun a b c => by simp; omega) (fun a b => by simp; omega) ns
    exact this.imp fun h => by simpa using h
  exact (p.trans p2.symm).eq_of_pairwise (fun a b _ _ h1 h2 => by omega) w w2
def rBi (f : Str) : List V → Hp → VK → Prop := fun vs H Q => ∃ L ds nw z, Cns H L vs ds ∧ semBi f ds = some (nw, z) ∧ ∀ v H', Zn H L H' v nw z → Q v H'
/-- what stands behind a built-in name -/
def biV (f : Str) : Option Value :=
  if f = "len" then some (.builtin "len") else if f = "list" then some (.type "list") else if f = "tuple" then some (.type "tuple") else if f = "sum" then some (.builtin "sum")
  else if f = "min" then some (.builtin "min") else if f = "max" then some (.builtin "max") else if f = "int" then some (.type "int") else if f = "any" then some (.builtin "any")
  else if f = "all" then some (.builtin "all") else if f = "sorted" then some (.builtin "sorted") else none
theorem digit_text {x : Str} {i : Int} (h : digit x = some i) : PySem.intText? x = some i ∧ x.length ≤ 640 := by
  unfold digit at h
  split at h
  · rename_i c hc
    split at h
    · rename_i hr
      cases h
      have := toList_one hc
      subst this
      refine ⟨?_, by show 1 ≤ 640; omega⟩
      obtain ⟨h1, h2⟩ := hr
      have : c = 48 ∨ c = 49 ∨ c = 50 ∨ c = 51 ∨ c = 52 ∨ c = 53 ∨ c = 54 ∨ c = 55 ∨ c = 56 ∨ c = 57 := by omega
      rcases this with h | h | h | h | h | h | h | h | h | h <;> subst h <;> decide +kernel
    · exact nomatch h
  · exact nomatch h
theorem bi_len : CallR X (.builtin "len") (rBi "len") := by
  intro pins s σ H vs us Q I rv h
  obtain ⟨L, ds, nw, z, cs, hf, q⟩ := h
  have hf : s_len ds = some (nw, z) := hf
  revert cs
  unfold s_len at hf
  split at hf
  · intro cs
    cases cs with | cons c cs => cases cs with | nil => cases c with
    | lst r s1 =>
      cases hf
      have := q (.int _) H (zn_dt (.int _))
      rw [← s1.length] at this
      exact call_len_seq pins s σ H _ us Q I rv ⟨_, _, rfl, .inl (.inl r), this⟩
  · intro cs
    cases cs with | cons c cs => cases cs with | nil => cases c with
    | tup r s1 =>
      cases hf
      have := q (.int _) H (zn_dt (.int _))
      rw [← s1.length] at this
      exact call_len_seq pins s σ H _ us Q I rv ⟨_, _, rfl, .inr (.inl r), this⟩
  · rename_i x _
    intro cs
    cases cs with | cons c cs => cases cs with | nil => cases c with
    | str =>
      split at hf
      · rename_i hz
        cases hf
        exact call_len_str pins s σ H _ us Q I rv ⟨_, rfl, fits_le hz, q _ _ (zn_dt (.int _))⟩
      · exact nomatch hf
  · exact nomatch hf
theorem signs_vals {x : Str} {acc : Array Value} (h : ItemsOf (SignAt x) acc x.cps.size) : Vals (x.cps.toList.map fun c => V.str ⟨#[c]⟩) acc.toList := by
  have hl : acc.toList.length = x.cps.toList.length := by rw [Array.length_toList, h.1, Array.length_toList]
  have key : ∀ (us : List Value) (cs : List Nat), us.length = cs.length → (∀ (j : Nat) (u : Value) (c : Nat), us[j]? = some u → cs[j]? = some c → RelV (V.str ⟨#[c]⟩) u) → Vals (cs.map fun c => V.str ⟨#[c]⟩) us := by
    intro us
    induction us with
    | nil => intro cs hl _; cases cs with | nil => exact .nil | cons _ _ => cases hl
    | cons u us ih =>
      intro cs hl hr
      cases cs with
      | nil => cases hl
      | cons c cs => exact .cons (hr 0 u c rfl rfl) (ih cs (by simpa using hl) fun j u c h1 h2 => hr (j + 1) u c (by simpa using h1) (by simpa using h2))
  refine key _ _ hl fun j u c h1 h2 => ?_
  obtain ⟨c', t, e1, e2⟩ := h.2 j u (by rw [← Array.getElem?_toList]; exact h1)
  rw [← Array.getElem?_toList, h2] at e1
  cases e1
  exact ⟨t, e2⟩
theorem signs_dts {H : Hp} {L : AS} : ∀ cs : List Nat, Dts H L (cs.map fun c => V.str ⟨#[c]⟩) (cs.map fun c => PyData.str ⟨#[c]⟩)
  | [] => .nil
  | c :: cs => .cons (.str _) (signs_dts cs)
theorem bi_list (hc : X.calm = true) : CallR X (.type "list") (rBi "list") := by
  intro pins s σ H vs us Q I rv h
  obtain ⟨L, ds, nw, z, cs, hf, q⟩ := h
  have hf : s_list ds = some (nw, z) := hf
  revert cs
  unfold s_list at hf
  split at hf
  · intro cs
    cases cs with | cons c cs => cases cs with | nil => cases c with
    | lst r s1 =>
      cases hf
      exact call_list_of pins s σ H _ us Q I rv ⟨_, _, rfl, .inl (.inl r), fun p hp => q _ _ (zn_new hp s1)⟩
  · intro cs
    cases cs with | cons c cs => cases cs with | nil => cases c with
    | tup r s1 =>
      cases hf
      exact call_list_of pins s σ H _ us Q I rv ⟨_, _, rfl, .inr (.inl r), fun p hp => q _ _ (zn_new hp s1)⟩
  · rename_i x _
    intro cs
    cases cs with | cons c cs => cases cs with | nil => cases c with
    | str =>
      split at hf
      · rename_i hz
        cases hf
        have hz : x.cps.toList.length ≤ sizeLine := of_decide_eq_true hz
        cases rv with | cons rx rr => cases rr with | nil =>
        obtain ⟨t, e⟩ := rx
        subst e
        refine call_list_str (I.ok.hd hc) x t (fun h' tk acc c' hk hS hi => ?_) (by rw [← Array.length_toList]; exact hz)
        refine ⟨.ref s.heap.objs.size, upd H s.heap.objs.size (.lst (x.cps.toList.map fun c => V.str ⟨#[c]⟩)), I.laid hk (Nat.le_refl _) (show ObjOk X.prog X.w _ _ _ (.lst _) from ⟨?_, acc.toList, c', signs_vals hi, ?_⟩), rfl, q _ _ (zn_new (I.hok.fresh (Nat.le_refl _)) (signs_dts _))⟩
        · rw [List.length_map]; exact hz
        · rw [Array.toArray_toList]; exact hS
      · cases hf
  · exact nomatch hf
theorem bi_tuple (hc : X.calm = true) : CallR X (.type "tuple") (rBi "tuple") := by
  intro pins s σ H vs us Q I rv h
  obtain ⟨L, ds, nw, z, cs, hf, q⟩ := h
  have hf : s_tuple ds = some (nw, z) := hf
  revert cs
  unfold s_tuple at hf
  split at hf
  · intro cs
    cases cs with | cons c cs => cases cs with | nil => cases c with
    | lst r s1 =>
      cases hf
      exact call_tuple_of pins s σ H _ us Q I rv ⟨_, _, rfl, .inl ⟨.inl r, fun p hp => q _ _ (zn_tup hp s1)⟩⟩
  · intro cs
    cases cs with | cons c cs => cases cs with | nil => cases c with
    | tup r s1 =>
      cases hf
      exact call_tuple_of pins s σ H _ us Q I rv ⟨_, _, rfl, .inr ⟨.inl r, q _ _ (zn_dt (.tup r s1))⟩⟩
  · rename_i x _
    intro cs
    cases cs with | cons c cs => cases cs with | nil => cases c with
    | str =>
      split at hf
      · rename_i hz
        cases hf
        have hz : x.cps.toList.length ≤ sizeLine := of_decide_eq_true hz
        cases rv with | cons rx rr => cases rr with | nil =>
        obtain ⟨t, e⟩ := rx
        subst e
        refine call_tuple_str (I.ok.hd hc) x t (fun h' tk acc hk hi => ?_) (by rw [← Array.length_toList]; exact hz)
        have I2 : Inv X pins σ H { s with heap := h', toks := tk } := I.kept hk
        refine ⟨.ref h'.objs.size, upd H h'.objs.size (.tup (x.cps.toList.map fun c => V.str ⟨#[c]⟩)), I2.laid (t' := tk) (fun c o e => Heap.get?_push_of_some _ e) (Nat.le_refl _) (show ObjOk X.prog X.w _ _ _ (.tup _) from ⟨?_, acc.toList, signs_vals hi, ?_⟩), rfl, q _ _ (zn_tup (I2.hok.fresh (Nat.le_refl _)) (signs_dts _))⟩
        · rw [List.length_map]; exact hz
        · rw [Array.toArray_toList]; exact IsTup.new _ _
      · cases hf
  · exact nomatch hf
theorem bi_sum (hc : X.calm = true) : CallR X (.builtin "sum") (rBi "sum") := by
  intro pins s σ H vs us Q I rv h
  obtain ⟨L, ds, nw, z, cs, hf, q⟩ := h
  have hf : s_sum ds = some (nw, z) := hf
  revert cs
  unfold s_sum at hf
  split at hf
  · rename_i l _
    intro cs
    cases cs with | cons c cs => cases cs with | nil => cases c with
    | lst r s1 =>
      cases e : allO isInt l with
      | none => rw [e] at hf; exact nomatch hf
      | some ns =>
        rw [e] at hf
        cases hf
        have := ints_of s1 e
        subst this
        exact cr_sum hc pins s σ H _ us Q I rv ⟨_, _, rfl, .inl r, q _ _ (zn_dt (.int _))⟩
  · exact nomatch hf
theorem bi_min (hc : X.calm = true) : CallR X (.builtin "min") (rBi "min") := by
  intro pins s σ H vs us Q I rv h
  obtain ⟨L, ds, nw, z, cs, hf, q⟩ := h
  have hf : s_min ds = some (nw, z) := hf
  revert cs
  unfold s_min at hf
  split at hf
  · intro cs
    cases cs with | cons c cs => cases cs with | cons c' cs => cases cs with | nil => cases c with | int i => cases c' with
    | int j =>
      cases hf
      exact call_min2 hc pins s σ H _ us Q I rv ⟨_, _, rfl, q _ _ (zn_dt (.int _))⟩
  · rename_i l _
    intro cs
    cases cs with | cons c cs => cases cs with | nil => cases c with
    | lst r s1 =>
      cases e : allO isInt l with
      | none => rw [e] at hf; exact nomatch hf
      | some ns =>
        rw [e] at hf
        have := ints_of s1 e
        subst this
        cases ns with
        | nil => exact nomatch hf
        | cons n ns =>
          cases hf
          obtain ⟨m1, m2⟩ := minF ns n
          refine cr_min hc pins s σ H _ us Q I rv ⟨_, n :: ns, rfl, .inl r, by simp, fun m hm hy => ?_⟩
          have e1 := hy _ m1
          have e2 := m2 m hm
          have e3 : m = ns.foldl (fun a b => if b < a then b else a) n := by omega
          rw [e3]
          exact q _ _ (zn_dt (.int _))
  · exact nomatch hf
theorem bi_max (hc : X.calm = true) : CallR X (.builtin "max") (rBi "max") := by
  intro pins s σ H vs us Q I rv h
  obtain ⟨L, ds, nw, z, cs, hf, q⟩ := h
  have hf : s_max ds = some (nw, z) := hf
  revert cs
  unfold s_max at hf
  split at hf
  · intro cs
    cases cs with | cons c cs => cases cs with | cons c' cs => cases cs with | nil => cases c with | int i => cases c' with
    | int j =>
      cases hf
      exact call_max2 hc pins s σ H _ us Q I rv ⟨_, _, rfl, q _ _ (zn_dt (.int _))⟩
  · rename_i l _
    intro cs
    cases cs with | cons c cs => cases cs with | nil => cases c with
    | lst r s1 =>
      cases e : allO isInt l with
      | none => rw [e] at hf; exact nomatch hf
      | some ns =>
        rw [e] at hf
        have := ints_of s1 e
        subst this
        cases ns with
        | nil => exact nomatch hf
        | cons n ns =>
          cases hf
          obtain ⟨m1, m2⟩ := maxF ns n
          refine cr_max hc pins s σ H _ us Q I rv ⟨_, n :: ns, rfl, .inl r, by simp, fun m hm hy => ?_⟩
          have e1 := hy _ m1
          have e2 := m2 m hm
          have e3 : m = ns.foldl (fun a b => if a < b then b else a) n := by omega
          rw [e3]
          exact q _ _ (zn_dt (.int _))
  · exact nomatch hf
theorem bi_int : CallR X (.type "int") (rBi "int") := by
  intro pins s σ H vs us Q I rv h
  obtain ⟨L, ds, nw, z, cs, hf, q⟩ := h
  have hf : s_int ds = some (nw, z) := hf
  revert cs
  unfold s_int at hf
  split at hf
  · intro cs
    cases cs with | cons c cs => cases cs with | nil => cases c with
    | int i =>
      cases hf
      exact call_int1 pins s σ H _ us Q I rv (.inl ⟨_, rfl, q _ _ (zn_dt (.int _))⟩)
  · intro cs
    cases cs with | cons c cs => cases cs with | nil => cases c with
    | bl b =>
      cases hf
      exact call_int1 pins s σ H _ us Q I rv (.inr ⟨_, rfl, q _ _ (zn_dt (.int _))⟩)
  · rename_i x _
    intro cs
    cases cs with | cons c cs => cases cs with | nil => cases c with
    | str _ =>
      cases e : digit x with
      | none => rw [e] at hf; exact nomatch hf
      | some i =>
        rw [e] at hf
        cases hf
        exact call_int_str pins s σ H _ us Q I rv ⟨_, _, rfl, (digit_text e).1, (digit_text e).2, q _ _ (zn_dt (.int _))⟩
  · exact nomatch hf
theorem bi_any (hc : X.calm = true) : CallR X (.builtin "any") (rBi "any") := by
  intro pins s σ H vs us Q I rv h
  obtain ⟨L, ds, nw, z, cs, hf, q⟩ := h
  have hf : s_any ds = some (nw, z) := hf
  revert cs
  unfold s_any at hf
  split at hf
  · rename_i l _
    intro cs
    cases cs with | cons c cs => cases cs with | nil => cases c with
    | lst r s1 =>
      cases e : allO isBl l with
      | none => rw [e] at hf; exact nomatch hf
      | some ns =>
        rw [e] at hf
        cases hf
        have := bls_of s1 e
        subst this
        exact cr_any hc pins s σ H _ us Q I rv ⟨_, _, rfl, .inl r, q _ _ (zn_dt (.bl _))⟩
  · exact nomatch hf
theorem bi_all (hc : X.calm = true) : CallR X (.builtin "all") (rBi "all") := by
  intro pins s σ H vs us Q I rv h
  obtain ⟨L, ds, nw, z, cs, hf, q⟩ := h
  have hf : s_all ds = some (nw, z) := hf
  revert cs
  unfold s_all at hf
  split at hf
  · rename_i l _
    intro cs
    cases cs with | cons c cs => cases cs with | nil => cases c with
    | lst r s1 =>
      cases e : allO isBl l with
      | none => rw [e] at hf; exact nomatch hf
      | some ns =>
        rw [e] at hf
        cases hf
        have := bls_of s1 e
        subst this
        exact cr_all hc pins s σ H _ us Q I rv ⟨_, _, rfl, .inl r, q _ _ (zn_dt (.bl _))⟩
  · exact nomatch hf
theorem bi_sorted : CallR X (.builtin "sorted") (rBi "sorted") := by
  intro pins s σ H vs us Q I rv h
  obtain ⟨L, ds, nw, z, cs, hf, q⟩ := h
  have hf : s_sorted ds = some (nw, z) := hf
  revert cs
  unfold s_sorted at hf
  split at hf
  · rename_i l _
    intro cs
    cases cs with | cons c cs => cases cs with | nil => cases c with
    | lst r s1 =>
      cases e : allO isInt l with
      | none => rw [e] at hf; exact nomatch hf
      | some ns =>
        rw [e] at hf
        simp only [Option.bind_some] at hf
        split at hf
        · rename_i hz
          cases hf
          have := ints_of s1 e
          subst this
          refine cr_sorted pins s σ H _ us Q I rv ⟨_, _, rfl, .inl r, hz, fun ns' p hp hw hn => ?_⟩
          have e1 := sortI_uniq hp hw
          subst e1
          exact q _ _ (zn_new hn (ints_dts _))
        · exact nomatch hf
  · exact nomatch hf
theorem bi_ok (hc : X.calm = true) {f : Str} {u : Value} (h : biV f = some u) : CallR X u (rBi f) := by
  unfold biV at h
  split at h
  · rename_i e; subst e; cases h; exact bi_len
  split at h
  · rename_i e; subst e; cases h; exact bi_list hc
  split at h
  · rename_i e; subst e; cases h; exact bi_tuple hc
  split at h
  · rename_i e; subst e; cases h; exact bi_sum hc
  split at h
  · rename_i e; subst e; cases h; exact bi_min hc
  split at h
  · rename_i e; subst e; cases h; exact bi_max hc
  split at h
  · rename_i e; subst e; cases h; exact bi_int
  split at h
  · rename_i e; subst e; cases h; exact bi_any hc
  split at h
  · rename_i e; subst e; cases h; exact bi_all hc
  split at h
  · rename_i e; subst e; cases h; exact bi_sorted
  · exact nomatch h
end
end En
set_option Elab.async false
set_option linter.all false
set_option maxRecDepth 100000
set_option maxHeartbeats 4000000
namespace En
open PySem PySem.Spec PyProof.Rows L2

/-! ### what zip and enumerate take: a list, a tuple, a text -/
structure Src (v : Value) (xs : List V) (G : Hp → Prop) (o : Obj) (c : List Addr) (Os : Addr → Nat → Heap → Prop) : Prop where
  at0 : ∀ it h, h.get? it = some o → Os it 0 h
  obj : ∀ it i h, Os it i h → ∃ o, h.get? it = some o ∧ ∀ v, o.data ≠ .cell v
  keep : ∀ it i h h', Os it i h → (∀ o, h.get? it = some o → h'.get? it = some o) → Os it i h'
  now : ∀ {X : Cx} {pins : List (Addr × Obj)} {σ : L2.St} {H : Hp} {s : Shared}, Inv X pins σ H s → G H → (∀ b ∈ c, b < s.heap.objs.size) ∧ (∃ B, Begins v o B ∧ B s.heap) ∧
    ∃ (Ct : Heap → Prop) (P : Nat → Value → Prop), Ct s.heap ∧ (∀ A it, A.handled = none → it ∉ c → Draws X.prog X.w A it (it :: c) xs.length P (fun i h => Os it i h ∧ Ct h)) ∧ ∀ i u, P i u → ∃ x, xs[i]? = some x ∧ RelV x u
theorem vals_getU {xs : List V} {us : List Value} (r : Vals xs us) : ∀ {i : Nat} {u : Value}, us[i]? = some u → ∃ x, xs[i]? = some x ∧ RelV x u := by
  induction r with
  | nil => intro i u h; simp at h
  | cons a t ih =>
    intro i u h
    cases i with
    | zero => simp at h; subst h; exact ⟨_, rfl, a⟩
    | succ i => simpa using ih (i := i) (by simpa using h)
theorem src_list (a : Addr) (xs : List V) : Src (.ref a) xs (fun H => Rd H a (.lst xs)) { cls := .type "list_iterator", data := .fields #[.ref a, .int 0 0] } [a] (fun it i h => h.IsListIter it a i) where
  at0 := fun it h e => ⟨_, e, rfl, rfl⟩
  obj := fun it i h ⟨o, e, _, d⟩ => ⟨o, e, fun v q => by rw [d] at q; cases q⟩
  keep := fun it i h h' st k => st.at k
  now := fun {X pins σ H s} I g => by
    obtain ⟨its, rv, p, _⟩ := I.list (a := a) (xs := xs) (.inl g)
    refine ⟨fun b hb => by rw [List.mem_singleton.mp hb]; exact p.lt, ⟨_, begins_list a its.toArray, p.isList⟩, fun h => h.IsList a its.toArray, fun i v => its.toArray[i]? = some v, p.isList, fun A it hh hn => ?_, fun i u h => ?_⟩
    · have := Draws.list (prog := X.prog) (w := X.w) hh it a (fun e => hn (by simp [e])) its.toArray
      rw [show its.toArray.size = xs.length by simp [rv.length]] at this
      exact this
    · exact vals_getU rv (by simpa using h)
theorem src_tup (a : Addr) (xs : List V) : Src (.ref a) xs (fun H => Rd H a (.tup xs)) { cls := .type "tuple_iterator", data := .fields #[.ref a, .int 0 0] } [a] (fun it i h => h.IsTupleIter it a i) where
  at0 := fun it h e => ⟨_, e, rfl, rfl⟩
  obj := fun it i h ⟨o, e, _, d⟩ => ⟨o, e, fun v q => by rw [d] at q; cases q⟩
  keep := fun it i h h' st k => st.at k
  now := fun {X pins σ H s} I g => by
    obtain ⟨its, rv, p, _⟩ := I.tuple (a := a) (xs := xs) (.inl g)
    have p' : s.heap.IsTuple a its.toArray := p
    refine ⟨fun b hb => by rw [List.mem_singleton.mp hb]; exact p.lt, ⟨_, begins_tuple a its.toArray, p'⟩, fun h => h.IsTuple a its.toArray, fun i v => its.toArray[i]? = some v, p', fun A it hh hn => ?_, fun i u h => ?_⟩
    · have := Draws.tuple (prog := X.prog) (w := X.w) hh it a (fun e => hn (by simp [e])) its.toArray
      rw [show its.toArray.size = xs.length by simp [rv.length]] at this
      exact this
    · exact vals_getU rv (by simpa using h)
def signsV (x : Str) : List V := x.cps.toList.map fun c => .str ⟨#[c]⟩
theorem src_str (x : Str) (t : Tok) : Src (.str x t) (signsV x) (fun _ => True) { cls := .type (strIterType x), data := .fields #[.str x t, .int 0 0] } [] (fun it i h => h.IsStrIter it (strIterType x) x t i) where
  at0 := fun it h e => ⟨_, e, rfl, rfl⟩
  obj := fun it i h ⟨o, e, _, d⟩ => ⟨o, e, fun v q => by rw [d] at q; cases q⟩
  keep := fun it i h h' ⟨o, e, c, d⟩ k => ⟨o, k o e, c, d⟩
  now := fun {X pins σ H s} I g => by
    refine ⟨fun b hb => absurd hb (by simp), ⟨_, begins_text x t, trivial⟩, fun _ => True, fun i v => ∃ c u, x.cps[i]? = some c ∧ v = .str ⟨#[c]⟩ u, trivial, fun A it hh hn => ?_, fun i u h => ?_⟩
    · have := Draws.text (prog := X.prog) (w := X.w) hh it x t
      have el : (signsV x).length = x.cps.size := by simp [signsV]
      rw [el]
      exact ⟨fun i h st => this.live i h st.1, fun i h h' st k => ⟨this.frame i h h' st.1 k, trivial⟩, fun i s Q E hi st hQ => this.item i s Q E hi st.1 fun x h' tk p st' sb => hQ x h' tk p ⟨st', trivial⟩ sb, fun s Q E st hE => this.done s Q E st.1 hE⟩
    · obtain ⟨c, u', hc, rfl⟩ := h
      refine ⟨.str ⟨#[c]⟩, ?_, _, rfl⟩
      unfold signsV
      rw [List.getElem?_map, show x.cps.toList[i]? = x.cps[i]? by simp, hc]
      rfl
/-- a value as a source -/
def SrcOf (x : V) (xs : List V) (G : Hp → Prop) : Prop := ∀ v, RelV x v → ∃ o c Os, Src v xs G o c Os
theorem srcOf_list (a : Addr) (xs : List V) : SrcOf (.ref a) xs fun H => Rd H a (.lst xs) := fun v r => by cases r; exact ⟨_, _, _, src_list a xs⟩
theorem srcOf_tup (a : Addr) (xs : List V) : SrcOf (.ref a) xs fun H => Rd H a (.tup xs) := fun v r => by cases r; exact ⟨_, _, _, src_tup a xs⟩
theorem srcOf_str (x : Str) : SrcOf (.str x) (signsV x) fun _ => True := fun v r => by obtain ⟨t, rfl⟩ := r; exact ⟨_, _, _, src_str x t⟩

/-! ### zip of two, of three -/
def Jz2 (xs ys : List V) (G1 G2 : Hp → Prop) : It :=
  ⟨fun i H => i < xs.length ∧ i < ys.length ∧ G1 H ∧ G2 H, fun i H v H' => ∃ T x y, v = .ref T ∧ H T = none ∧ H' = upd H T (.tup [x, y]) ∧ xs[i]? = some x ∧ ys[i]? = some y,
    fun i H => i ≤ xs.length ∧ i ≤ ys.length ∧ (i = xs.length ∨ i = ys.length) ∧ G1 H ∧ G2 H⟩
theorem turn_z2 {P : Program} {w : World} {K : PySem.W.Frag} {elts : List Expr} {kk : Nat} {tpos : Pos} {z TI TO i1 i2 : Addr} {c1 c2 : List Addr} {v1 v2 : Value} {xs ys : List V} {G1 G2 : Hp → Prop} {o1 o2 : Obj} {Os1 Os2 : Addr → Nat → Heap → Prop}
    (B1 : Src v1 xs G1 o1 c1 Os1) (B2 : Src v2 ys G2 o2 c2 Os2) (S : ZipSep2 z TI TO i1 i2 (i1 :: c1) (i2 :: c2)) (n1 : i1 ∉ c1) (n2 : i2 ∉ c2) :
    Turn P w K (.Tuple elts kk tpos) (Jz2 xs ys G1 G2) [z, TI, TO, i1, i2] z (fun i h => IsZip h z TI TO .none ∧ IsTupOf2 h TI (.ref i1) (.ref i2) ∧ (∃ x y, IsTupOf2 h TO x y) ∧ Os1 i1 i h ∧ Os2 i2 i h) where
  mem := by simp
  obj := fun i h st c hc => by
    obtain ⟨hz, hTI, ⟨x, y, hTO⟩, h1, h2⟩ := st
    have e' : c = z ∨ c = TI ∨ c = TO ∨ c = i1 ∨ c = i2 := by simpa using hc
    rcases e' with q | q | q | q | q
    · rw [q]; exact ⟨_, hz, fun v q => nomatch q⟩
    · rw [q]; exact ⟨_, hTI, fun v q => nomatch q⟩
    · rw [q]; exact ⟨_, hTO, fun v q => nomatch q⟩
    · rw [q]; exact B1.obj _ _ _ h1
    · rw [q]; exact B2.obj _ _ _ h2
  keep := fun i h h' st k => by
    obtain ⟨hz, hTI, ⟨x, y, hTO⟩, h1, h2⟩ := st
    exact ⟨k z (by simp) _ hz, k TI (by simp) _ hTI, ⟨x, y, k TO (by simp) _ hTO⟩, B1.keep _ _ _ _ h1 fun o q => k i1 (by simp) o q, B2.keep _ _ _ _ h2 fun o q => k i2 (by simp) o q⟩
  item := by
    intro X hP hw hK hc i pins s σ H E I hf st hg
    subst hP hw hK
    obtain ⟨hz, hTI, ⟨x0, y0, hTO⟩, h1, h2⟩ := st
    obtain ⟨l1, l2, g1, g2⟩ := hg
    obtain ⟨_, _, C1, P1, hC1, D1, R1⟩ := B1.now I g1
    obtain ⟨_, _, C2, P2, hC2, D2, R2⟩ := B2.now I g2
    have hzl : z < s.heap.objs.size := Heap.lt_size hz
    have hh : X.A.in1.handled = none := I.ok.hd hc
    refine wpAny_pyNext_zipD2_item S (D1 X.A.in1 i1 hh n1) (D2 X.A.in1 i2 hh n2) hz hTI hTO ⟨h1, hC1⟩ ⟨h2, hC2⟩ l1 l2 fun u1 u2 h' tk p1 p2 z' TO' h1' h2' hT hsz hk => ?_
    obtain ⟨x, hx, ru⟩ := R1 i u1 p1
    obtain ⟨y, hy, ru2⟩ := R2 i u2 p2
    refine ⟨_, rfl, wpAny_letOwnedTupleGo_zip (s := { s with heap := h', toks := tk }) z' fun h'' z'' sb => ?_⟩
    have hT2 : h''.get? s.heap.objs.size = some { cls := .type "tuple", data := .seq #[u1, u2] } := (sb.2 _ (Nat.ne_of_gt hzl)).trans hT
    have new : ObjOk X.prog X.w (upd H s.heap.objs.size (.tup [x, y])) h'' s.heap.objs.size (.tup [x, y]) :=
      ⟨by show 2 ≤ sizeLine; decide, [u1, u2], .cons ru (.cons ru2 .nil), ⟨_, hT2, rfl, _, rfl⟩⟩
    have I1 : Inv X pins σ (upd H s.heap.objs.size (.tup [x, y])) { s with heap := h'', toks := tk } :=
      I.turnedNew (t' := tk) (ch := [z, TI, TO, i1, i2]) (fun c o hb q => (sb.2 c (fun q' => hb (by simp [q']))).trans (hk c o (fun q' => hb (by simp [q'])) (fun q' => hb (by simp [q'])) (fun q' => hb (by simp [q'])) (fun q' => hb (by simp [q'])) q)) hf (Nat.le_refl _) new
    refine ⟨.ref s.heap.objs.size, _, I1, rfl, ⟨_, x, y, rfl, I.hok.fresh (Nat.le_refl _), rfl, hx, hy⟩, ⟨z'', ?_, ⟨u1, u2, ?_⟩, ?_, ?_⟩, fun c hcm => ?_⟩
    · exact (sb.2 _ S.TIz).trans (hk _ _ S.TIz S.TITO S.TIi1 S.TIi2 hTI)
    · exact (sb.2 _ S.TOz).trans TO'
    · exact B1.keep _ _ _ _ h1'.1 fun o q => (sb.2 _ (Ne.symm S.zi1)).trans q
    · exact B2.keep _ _ _ _ h2'.1 fun o q => (sb.2 _ (Ne.symm S.zi2)).trans q
    · have hlt : c < s.heap.objs.size := by
        have e' : c = z ∨ c = TI ∨ c = TO ∨ c = i1 ∨ c = i2 := by simpa using hcm
        rcases e' with q | q | q | q | q
        · rw [q]; exact hzl
        · rw [q]; exact Heap.lt_size hTI
        · rw [q]; exact Heap.lt_size hTO
        · rw [q]; obtain ⟨_, e1, _⟩ := B1.obj _ _ _ h1; exact Heap.lt_size e1
        · rw [q]; obtain ⟨_, e1, _⟩ := B2.obj _ _ _ h2; exact Heap.lt_size e1
      rw [upd_ne (Nat.ne_of_lt hlt)]
      exact (hf c hcm).1
  done := by
    intro X hP hw hK hc i pins s σ H E I hf st hg
    subst hP hw hK
    obtain ⟨hz, hTI, ⟨x0, y0, hTO⟩, h1, h2⟩ := st
    obtain ⟨l1, l2, he, g1, g2⟩ := hg
    obtain ⟨_, _, C1, P1, hC1, D1, R1⟩ := B1.now I g1
    obtain ⟨_, _, C2, P2, hC2, D2, R2⟩ := B2.now I g2
    have hh : X.A.in1.handled = none := I.ok.hd hc
    exact wpAny_pyNext_zipD2_end S (D1 X.A.in1 i1 hh n1) (D2 X.A.in1 i2 hh n2) hz hTI hTO ⟨h1, hC1⟩ ⟨h2, hC2⟩ l1 l2 he fun h' tk hk => ⟨rfl, I.turnedL (t' := tk) (ch := [z, TI, TO, i1, i2]) (fun c o hb q =>
      hk c o (fun q' => hb (by simp [q'])) (fun q' => hb (by simp [q'])) (fun q' => hb (by simp [q'])) (fun q' => hb (by simp [q'])) q) hf⟩
  self := fun A i s Q E st h => wpAny_pyIter_zip st.1 h
def Jz3 (xs ys zs : List V) (G1 G2 G3 : Hp → Prop) : It :=
  ⟨fun i H => i < xs.length ∧ i < ys.length ∧ i < zs.length ∧ G1 H ∧ G2 H ∧ G3 H, fun i H v H' => ∃ T x y z, v = .ref T ∧ H T = none ∧ H' = upd H T (.tup [x, y, z]) ∧ xs[i]? = some x ∧ ys[i]? = some y ∧ zs[i]? = some z,
    fun i H => i ≤ xs.length ∧ i ≤ ys.length ∧ i ≤ zs.length ∧ (i = xs.length ∨ i = ys.length ∨ i = zs.length) ∧ G1 H ∧ G2 H ∧ G3 H⟩
theorem turn_z3 {P : Program} {w : World} {K : PySem.W.Frag} {elts : List Expr} {kk : Nat} {tpos : Pos} {z TI TO i1 i2 i3 : Addr} {c1 c2 c3 : List Addr} {v1 v2 v3 : Value} {xs ys zs : List V} {G1 G2 G3 : Hp → Prop} {o1 o2 o3 : Obj} {Os1 Os2 Os3 : Addr → Nat → Heap → Prop}
    (B1 : Src v1 xs G1 o1 c1 Os1) (B2 : Src v2 ys G2 o2 c2 Os2) (B3 : Src v3 zs G3 o3 c3 Os3) (S : ZipSep3 z TI TO i1 i2 i3 (i1 :: c1) (i2 :: c2) (i3 :: c3)) (n1 : i1 ∉ c1) (n2 : i2 ∉ c2) (n3 : i3 ∉ c3) :
    Turn P w K (.Tuple elts kk tpos) (Jz3 xs ys zs G1 G2 G3) [z, TI, TO, i1, i2, i3] z (fun i h => IsZip h z TI TO .none ∧ IsTupOf3 h TI (.ref i1) (.ref i2) (.ref i3) ∧ (∃ x y u, IsTupOf3 h TO x y u) ∧ Os1 i1 i h ∧ Os2 i2 i h ∧ Os3 i3 i h) where
  mem := by simp
  obj := fun i h st c hc => by
    obtain ⟨hz, hTI, ⟨x, y, u, hTO⟩, h1, h2, h3⟩ := st
    have e' : c = z ∨ c = TI ∨ c = TO ∨ c = i1 ∨ c = i2 ∨ c = i3 := by simpa using hc
    rcases e' with q | q | q | q | q | q
    · rw [q]; exact ⟨_, hz, fun v q => nomatch q⟩
    · rw [q]; exact ⟨_, hTI, fun v q => nomatch q⟩
    · rw [q]; exact ⟨_, hTO, fun v q => nomatch q⟩
    · rw [q]; exact B1.obj _ _ _ h1
    · rw [q]; exact B2.obj _ _ _ h2
    · rw [q]; exact B3.obj _ _ _ h3
  keep := fun i h h' st k => by
    obtain ⟨hz, hTI, ⟨x, y, u, hTO⟩, h1, h2, h3⟩ := st
    exact ⟨k z (by simp) _ hz, k TI (by simp) _ hTI, ⟨x, y, u, k TO (by simp) _ hTO⟩, B1.keep _ _ _ _ h1 fun o q => k i1 (by simp) o q, B2.keep _ _ _ _ h2 fun o q => k i2 (by simp) o q, B3.keep _ _ _ _ h3 fun o q => k i3 (by simp) o q⟩
  item := by
    intro X hP hw hK hc i pins s σ H E I hf st hg
    subst hP hw hK
    obtain ⟨hz, hTI, ⟨x0, y0, u0, hTO⟩, h1, h2, h3⟩ := st
    obtain ⟨l1, l2, l3, g1, g2, g3⟩ := hg
    obtain ⟨_, _, C1, P1, hC1, D1, R1⟩ := B1.now I g1
    obtain ⟨_, _, C2, P2, hC2, D2, R2⟩ := B2.now I g2
    obtain ⟨_, _, C3, P3, hC3, D3, R3⟩ := B3.now I g3
    have hzl : z < s.heap.objs.size := Heap.lt_size hz
    have hh : X.A.in1.handled = none := I.ok.hd hc
    refine wpAny_pyNext_zipD3_item S (D1 X.A.in1 i1 hh n1) (D2 X.A.in1 i2 hh n2) (D3 X.A.in1 i3 hh n3) hz hTI hTO ⟨h1, hC1⟩ ⟨h2, hC2⟩ ⟨h3, hC3⟩ l1 l2 l3 fun u1 u2 u3 h' tk p1 p2 p3 z' TO' h1' h2' h3' hT hsz hk => ?_
    obtain ⟨x, hx, ru⟩ := R1 i u1 p1
    obtain ⟨y, hy, ru2⟩ := R2 i u2 p2
    obtain ⟨y3, hy3, ru3⟩ := R3 i u3 p3
    refine ⟨_, rfl, wpAny_letOwnedTupleGo_zip (s := { s with heap := h', toks := tk }) z' fun h'' z'' sb => ?_⟩
    have hT2 : h''.get? s.heap.objs.size = some { cls := .type "tuple", data := .seq #[u1, u2, u3] } := (sb.2 _ (Nat.ne_of_gt hzl)).trans hT
    have new : ObjOk X.prog X.w (upd H s.heap.objs.size (.tup [x, y, y3])) h'' s.heap.objs.size (.tup [x, y, y3]) :=
      ⟨by show 3 ≤ sizeLine; decide, [u1, u2, u3], .cons ru (.cons ru2 (.cons ru3 .nil)), ⟨_, hT2, rfl, _, rfl⟩⟩
    have I1 : Inv X pins σ (upd H s.heap.objs.size (.tup [x, y, y3])) { s with heap := h'', toks := tk } :=
      I.turnedNew (t' := tk) (ch := [z, TI, TO, i1, i2, i3]) (fun c o hb q => (sb.2 c (fun q' => hb (by simp [q']))).trans (hk c o (fun q' => hb (by simp [q'])) (fun q' => hb (by simp [q'])) (fun q' => hb (by simp [q'])) (fun q' => hb (by simp [q'])) (fun q' => hb (by simp [q'])) q)) hf (Nat.le_refl _) new
    refine ⟨.ref s.heap.objs.size, _, I1, rfl, ⟨_, x, y, y3, rfl, I.hok.fresh (Nat.le_refl _), rfl, hx, hy, hy3⟩, ⟨z'', ?_, ⟨u1, u2, u3, ?_⟩, ?_, ?_, ?_⟩, fun c hcm => ?_⟩
    · exact (sb.2 _ S.TIz).trans (hk _ _ S.TIz S.TITO S.TIi1 S.TIi2 S.TIi3 hTI)
    · exact (sb.2 _ S.TOz).trans TO'
    · exact B1.keep _ _ _ _ h1'.1 fun o q => (sb.2 _ (Ne.symm S.zi1)).trans q
    · exact B2.keep _ _ _ _ h2'.1 fun o q => (sb.2 _ (Ne.symm S.zi2)).trans q
    · exact B3.keep _ _ _ _ h3'.1 fun o q => (sb.2 _ (Ne.symm S.zi3)).trans q
    · have hlt : c < s.heap.objs.size := by
        have e' : c = z ∨ c = TI ∨ c = TO ∨ c = i1 ∨ c = i2 ∨ c = i3 := by simpa using hcm
        rcases e' with q | q | q | q | q | q
        · rw [q]; exact hzl
        · rw [q]; exact Heap.lt_size hTI
        · rw [q]; exact Heap.lt_size hTO
        · rw [q]; obtain ⟨_, e1, _⟩ := B1.obj _ _ _ h1; exact Heap.lt_size e1
        · rw [q]; obtain ⟨_, e1, _⟩ := B2.obj _ _ _ h2; exact Heap.lt_size e1
        · rw [q]; obtain ⟨_, e1, _⟩ := B3.obj _ _ _ h3; exact Heap.lt_size e1
      rw [upd_ne (Nat.ne_of_lt hlt)]
      exact (hf c hcm).1
  done := by
    intro X hP hw hK hc i pins s σ H E I hf st hg
    subst hP hw hK
    obtain ⟨hz, hTI, ⟨x0, y0, u0, hTO⟩, h1, h2, h3⟩ := st
    obtain ⟨l1, l2, l3, he, g1, g2, g3⟩ := hg
    obtain ⟨_, _, C1, P1, hC1, D1, R1⟩ := B1.now I g1
    obtain ⟨_, _, C2, P2, hC2, D2, R2⟩ := B2.now I g2
    obtain ⟨_, _, C3, P3, hC3, D3, R3⟩ := B3.now I g3
    have hh : X.A.in1.handled = none := I.ok.hd hc
    exact wpAny_pyNext_zipD3_end S (D1 X.A.in1 i1 hh n1) (D2 X.A.in1 i2 hh n2) (D3 X.A.in1 i3 hh n3) hz hTI hTO ⟨h1, hC1⟩ ⟨h2, hC2⟩ ⟨h3, hC3⟩ l1 l2 l3 he fun h' tk hk => ⟨rfl, I.turnedL (t' := tk) (ch := [z, TI, TO, i1, i2, i3]) (fun c o hb q =>
      hk c o (fun q' => hb (by simp [q'])) (fun q' => hb (by simp [q'])) (fun q' => hb (by simp [q'])) (fun q' => hb (by simp [q'])) (fun q' => hb (by simp [q'])) q) hf⟩
  self := fun A i s Q E st h => wpAny_pyIter_zip st.1 h
/-! ### enumerate -/
def Jen (xs : List V) (G1 : Hp → Prop) : It :=
  ⟨fun i H => i < xs.length ∧ G1 H, fun i H v H' => ∃ T x, v = .ref T ∧ H T = none ∧ H' = upd H T (.tup [.int (i : Nat), x]) ∧ xs[i]? = some x, fun i H => i = xs.length ∧ G1 H⟩
theorem turn_en {P : Program} {w : World} {K : PySem.W.Frag} {elts : List Expr} {kk : Nat} {tpos : Pos} {e it : Addr} {c1 : List Addr} {v1 : Value} {xs : List V} {G1 : Hp → Prop} {o1 : Obj} {Os1 : Addr → Nat → Heap → Prop}
    (B1 : Src v1 xs G1 o1 c1 Os1) (n1 : it ∉ c1) (hne : e ≠ it) (hec : e ∉ c1) :
    Turn P w K (.Tuple elts kk tpos) (Jen xs G1) [e, it] e (fun i h => (∃ old, IsEnum h e it ((i : Nat) : Int) old) ∧ Os1 it i h) where
  mem := by simp
  obj := fun i h st b hb => by
    obtain ⟨⟨old, he⟩, h1⟩ := st
    have e' : b = e ∨ b = it := by simpa using hb
    rcases e' with z | z
    · rw [z]; exact ⟨_, he, fun v q => nomatch q⟩
    · rw [z]; exact B1.obj _ _ _ h1
  keep := fun i h h' st k => let ⟨⟨old, he⟩, hi⟩ := st; ⟨⟨old, k e (by simp) _ he⟩, B1.keep _ _ _ _ hi fun o q => k it (by simp) o q⟩
  item := by
    intro X hP hw hK hc i pins s σ H E I hf st hg
    subst hP hw hK
    obtain ⟨⟨old, he⟩, h1⟩ := st
    obtain ⟨l1, g1⟩ := hg
    obtain ⟨_, _, C1, P1, hC1, D1, R1⟩ := B1.now I g1
    have hh : X.A.in1.handled = none := I.ok.hd hc
    have hel : e < s.heap.objs.size := Heap.lt_size he
    have hil : it < s.heap.objs.size := by obtain ⟨_, q, _⟩ := B1.obj _ _ _ h1; exact Heap.lt_size q
    have hef : e ∉ it :: c1 := fun q => by
      rcases List.mem_cons.mp q with q | q
      · exact hne q
      · exact hec q
    refine wpAny_pyNext_enum_itemD (D1 X.A.in1 it hh n1) he ⟨h1, hC1⟩ l1 hne hef fun u h' tk p1 ho st' hT hsz hk => ?_
    obtain ⟨x, hx, ru⟩ := R1 i u p1
    refine ⟨_, rfl, wpAny_letOwnedTupleGo_enum (s := { s with heap := h', toks := tk + 1 }) ho fun h'' he' sb => ?_⟩
    have hT2 : h''.get? s.heap.objs.size = some { cls := .type "tuple", data := .seq #[.int i tk, u] } := (sb.2 _ (Nat.ne_of_gt hel)).trans hT
    have new : ObjOk X.prog X.w (upd H s.heap.objs.size (.tup [.int (i : Nat), x])) h'' s.heap.objs.size (.tup [.int (i : Nat), x]) :=
      ⟨by show 2 ≤ sizeLine; decide, [.int i tk, u], .cons ⟨_, rfl⟩ (.cons ru .nil), ⟨_, hT2, rfl, _, rfl⟩⟩
    have I1 : Inv X pins σ (upd H s.heap.objs.size (.tup [.int (i : Nat), x])) { s with heap := h'', toks := tk + 1 } :=
      I.turnedNew (ch := [e, it]) (fun b ob hb q => (sb.2 b (fun z => hb (by simp [z]))).trans (hk b ob (fun z => hb (by simp [z])) (fun z => hb (by simp [z])) q)) hf (Nat.le_refl _) new
    refine ⟨.ref s.heap.objs.size, _, I1, rfl, ⟨_, x, rfl, I.hok.fresh (Nat.le_refl _), rfl, hx⟩, ⟨⟨u, ?_⟩, B1.keep _ _ _ _ st'.1 fun o q => (sb.2 it (Ne.symm hne)).trans q⟩, fun b hb => ?_⟩
    · have e1 : ((i + 1 : Nat) : Int) = (i : Int) + 1 := by omega
      rw [e1]; exact he'
    · have hb' : b < s.heap.objs.size := by
        have e' : b = e ∨ b = it := by simpa using hb
        rcases e' with z | z
        · rw [z]; exact hel
        · rw [z]; exact hil
      rw [upd_ne (Nat.ne_of_lt hb')]
      exact (hf b hb).1
  done := by
    intro X hP hw hK hc i pins s σ H E I hf st hg
    subst hP hw hK
    obtain ⟨⟨old, he⟩, h1⟩ := st
    obtain ⟨l1, g1⟩ := hg
    subst l1
    obtain ⟨_, _, C1, P1, hC1, D1, R1⟩ := B1.now I g1
    have hh : X.A.in1.handled = none := I.ok.hd hc
    exact wpAny_pyNext_enum_endD (D1 X.A.in1 it hh n1) he ⟨h1, hC1⟩ fun h' eb => ⟨rfl, I.turnedL (t' := s.toks) (ch := [e, it]) (fun b o hb q => eb b o (fun z => hb (by simp [z])) q) hf⟩
  self := fun A i s Q E st h => by
    obtain ⟨⟨old, he⟩, _⟩ := st
    exact wpAny_pyIter_enum he h
end En
set_option Elab.async false
set_option linter.all false
set_option maxRecDepth 100000
set_option maxHeartbeats 4000000
namespace En
open PySem PySem.Spec PyProof.Rows L2

/-! ### the state: H0, M0 at the def's entry (M0: what others may change), H, M now -/
def Lm (H0 : Hp) (M : AS) (m : Bool) : AS := fun a => ¬ M a ∧ (m = false → H0 a = none)
theorem Lm.le {H0 : Hp} {M : AS} {m m' : Bool} (h : m = true → m' = true) {a : Addr} (q : Lm H0 M m a) : Lm H0 M m' a := ⟨q.1, fun e => q.2 (by cases m with
  | false => rfl
  | true => rw [h rfl] at e; cases e)⟩
theorem Lm.orl {H0 : Hp} {M : AS} {m m' : Bool} {a : Addr} (q : Lm H0 M m a) : Lm H0 M (m || m') a := q.le fun e => by simp [e]
theorem Lm.orr {H0 : Hp} {M : AS} {m m' : Bool} {a : Addr} (q : Lm H0 M m' a) : Lm H0 M (m || m') a := q.le fun e => by simp [e]
/-- an object of one's own -/
inductive Ob (H : Hp) (L : AS) (a : Addr) : D → Prop
  | lst {xs : List V} {ds : List D} : H a = some (.lst xs) → Dts H L xs ds → Ob H L a (.list ds)
  | dK {kvs : List (Key × V)} {es : List (D × D)} : H a = some (.dK kvs) → es.map (·.1) = kvs.map (fun kv => keyD kv.1) → Dvs H L (kvs.map (·.2)) es → Ob H L a (.dict es)
theorem Ob.go {H H' : Hp} {L L' : AS} {a : Addr} {d : D} (h : Ob H L a d) (ha : H' a = H a) (hl : ∀ a u, L a → H a = some u → H' a = some u ∧ L' a) (ht : ∀ a xs, Rd H a (.tup xs) → Rd H' a (.tup xs)) : Ob H' L' a d := by
  cases h with
  | lst e s => exact .lst (ha.trans e) (Dts.go hl ht _ _ s)
  | dK e k s => exact .dK (ha.trans e) k (Dvs.go hl ht _ _ s)
theorem Ob.there {H : Hp} {L : AS} {a : Addr} {d : D} (h : Ob H L a d) : ∃ o, H a = some o ∧ Mut (some o) := by
  cases h with
  | lst e s => exact ⟨_, e, trivial⟩
  | dK e k s => exact ⟨_, e, trivial⟩
theorem sm_ob {H H' : Hp} {L : AS} (e : Same H H') {a : Addr} {d : D} (h : Ob H L a d) : Ob H' L a d := by
  obtain ⟨o, q, _⟩ := h.there
  exact h.go ((e _ _ q).trans q.symm) (fun _ _ l r => ⟨e _ _ r, l⟩) fun _ _ r => sm_rd e r
theorem Ob.wk {H : Hp} {L L' : AS} (l : ∀ a, L a → L' a) {a : Addr} {d : D} (h : Ob H L a d) : Ob H L' a d := h.go rfl (fun a _ q r => ⟨r, l a q⟩) fun _ _ r => r
theorem Ob.cn {H : Hp} {L : AS} {a : Addr} {d : D} (h : Ob H L a d) : Cn H L (.ref a) d := by
  cases h with
  | lst e s => exact .lst (.inl e) s
  | dK e k s => exact .dK e k s
theorem Ob.dt {H : Hp} {L : AS} {a : Addr} {d : D} (h : Ob H L a d) (l : L a) : Dt H L (.ref a) d := by
  cases h with
  | lst e s => exact .lst l (.inl e) s
  | dK e k s => exact .dK l e k s

def SlOk (H0 H : Hp) (M : AS) (o : Option (Option V)) : Sl → Prop
  | .no => True
  | .fr m d => ∃ v, o = some (some v) ∧ Dt H (Lm H0 M m) v d
  | .ow m d => ∃ a, o = some (some (.ref a)) ∧ M a ∧ H0 a = none ∧ Ob H (Lm H0 M m) a d
  | .pt v => o = some (some v)
structure EnvOk (H0 : Hp) (M0 : AS) (H : Hp) (M : AS) (σ : List (Option V)) (env : List Sl) : Prop where
  len : σ.length = env.length
  same : Same H0 H
  m0 : ∀ a, M0 a → M a ∧ H0 a ≠ none
  dom : ∀ a, M a → ∃ o, H a = some o ∧ Mut (some o)
  sl : ∀ (i : Nat) (s : Sl), env[i]? = some s → SlOk H0 H M (σ[i]?) s
  dis : ∀ (i j : Nat) (m : Bool) (d : D) (m' : Bool) (d' : D) (a : Addr), env[i]? = some (.ow m d) → env[j]? = some (.ow m' d') → σ[i]? = some (some (.ref a)) → σ[j]? = some (some (.ref a)) → i = j
theorem SlOk.same {H0 H H' : Hp} {M : AS} {o : Option (Option V)} {s : Sl} (e : Same H H') (h : SlOk H0 H M o s) : SlOk H0 H' M o s := by
  cases s with
  | no => trivial
  | fr m d => obtain ⟨v, q, t⟩ := h; exact ⟨v, q, sm_dt e t⟩
  | ow m d => obtain ⟨a, q, x, y, t⟩ := h; exact ⟨a, q, x, y, sm_ob e t⟩
  | pt v => exact h
theorem EnvOk.up {H0 : Hp} {M0 : AS} {H H' : Hp} {M : AS} {σ : L2.St} {env : List Sl} (h : EnvOk H0 M0 H M σ env) (e : Same H H') : EnvOk H0 M0 H' M σ env :=
  ⟨h.len, h.same.trans e, h.m0, fun a m => let ⟨o, q, t⟩ := h.dom a m; ⟨o, e _ _ q, t⟩, fun i s q => (h.sl i s q).same e, h.dis⟩
theorem EnvOk.fresh {H0 : Hp} {M0 : AS} {H : Hp} {M : AS} {σ : L2.St} {env : List Sl} (h : EnvOk H0 M0 H M σ env) {a : Addr} (e : H a = none) : ¬ M a ∧ H0 a = none :=
  ⟨fun m => (by obtain ⟨o, q, _⟩ := h.dom a m; rw [e] at q; cases q), h.same.free e⟩

def RvOk (H0 : Hp) (M : AS) (Hs H : Hp) (v : V) : Rv → Prop
  | .fr m d => Dt H (Lm H0 M m) v d
  | .ow m d => ∃ a, v = .ref a ∧ Hs a = none ∧ ¬ M a ∧ H0 a = none ∧ Ob H (fun b => Lm H0 M m b ∧ b ≠ a) a d
  | .bo m d => Cn H (Lm H0 M m) v d
theorem RvOk.same {H0 : Hp} {M : AS} {Hs H H' : Hp} {v : V} {r : Rv} (e : Same H H') (h : RvOk H0 M Hs H v r) : RvOk H0 M Hs H' v r := by
  cases r with
  | fr m d => exact sm_dt e h
  | ow m d => obtain ⟨a, x, y, z, u, t⟩ := h; exact ⟨a, x, y, z, u, sm_ob e t⟩
  | bo m d => exact sm_cn e h
theorem RvOk.back {H0 : Hp} {M : AS} {Hs Hs' H : Hp} {v : V} {r : Rv} (e : Same Hs' Hs) (h : RvOk H0 M Hs H v r) : RvOk H0 M Hs' H v r := by
  cases r with
  | fr m d => exact h
  | ow m d => obtain ⟨a, x, y, z, u, t⟩ := h; exact ⟨a, x, e.free y, z, u, t⟩
  | bo m d => exact h
theorem RvOk.cn {H0 : Hp} {M : AS} {Hs H : Hp} {v : V} {r : Rv} (h : RvOk H0 M Hs H v r) : Cn H (Lm H0 M r.m) v r.d := by
  cases r with
  | fr m d => exact Dt.cn h
  | ow m d => obtain ⟨a, rfl, _, _, _, t⟩ := h; exact (t.wk fun _ q => q.1).cn
  | bo m d => exact h
/-- it is put away -/
theorem RvOk.sto {H0 : Hp} {M : AS} {Hs H : Hp} {v : V} {r : Rv} {p : Bool × D} (h : RvOk H0 M Hs H v r) (e : En.sto r = .ok p) : Dt H (Lm H0 M p.1) v p.2 := by
  have fin : ∀ {m : Bool} {d : D}, Dt H (Lm H0 M m) v d → Dt H (Lm H0 M (m && !imm d)) v d := fun {m d} t => by
    cases q : imm d with
    | true => exact Dt.imm d v q t
    | false => simpa using t
  cases r with
  | fr m d => cases e; exact fin h
  | ow m d =>
    cases e
    obtain ⟨a, rfl, _, y, u, t⟩ := h
    exact fin ((t.wk (L' := Lm H0 M m) fun _ q => q.1).dt ⟨y, fun _ => u⟩)
  | bo m d => cases e
theorem zn_rv {H0 : Hp} {M0 : AS} {Hs H H' : Hp} {M : AS} {σ : L2.St} {env : List Sl} {v : V} {nw : Bool} {z : D} {m : Bool} (ok : EnvOk H0 M0 H M σ env) (e : Same Hs H) (h : Zn H (Lm H0 M m) H' v nw z) : RvOk H0 M Hs H' v (mk m nw z) := by
  obtain ⟨s, h⟩ := h
  unfold mk
  cases nw with
  | true =>
    rw [if_pos rfl] at h ⊢
    obtain ⟨p, xs, ds, rfl, hp, rfl, q, t⟩ := h
    exact ⟨p, rfl, e.free hp, (ok.fresh hp).1, (ok.fresh hp).2, .lst q t⟩
  | false =>
    rw [if_neg (by simp)] at h ⊢
    show Dt H' (Lm H0 M (m && !sc z)) v z
    cases q : sc z with
    | true => exact h.cn.dt_sc q
    | false => simpa using h

/-! ### what is wanted behind a run -/
section
variable (E : XK) (mg : Str → Option Value)
def Rp {α : Type} (H : Hp) (r : R α) (k : α → Prop) : Prop := match r with
  | .bad => False
  | .err x => ∀ C H', mg x = some (.ref C) → Same H H' → E (.ref C) none H'
  | .ok a => k a
end
section
variable {E : XK} {mg : Str → Option Value}
theorem Rp.bind {α β : Type} {H : Hp} {r : R α} {f : α → R β} {k : β → Prop} (h : Rp E mg H (r.bind f) k) : Rp E mg H r fun a => Rp E mg H (f a) k := by
  cases r with
  | bad => exact h
  | err x => exact h
  | ok a => exact h
theorem Rp.of_bind {α β : Type} {H : Hp} {r : R α} {f : α → R β} {k : β → Prop} (h : Rp E mg H r fun a => Rp E mg H (f a) k) : Rp E mg H (r.bind f) k := by
  cases r with
  | bad => exact h
  | err x => exact h
  | ok a => exact h
theorem Rp.imp {α : Type} {H : Hp} {r : R α} {k k' : α → Prop} (h : Rp E mg H r k) (i : ∀ a, r = .ok a → k a → k' a) : Rp E mg H r k' := by
  cases r with
  | bad => exact h
  | err x => exact h
  | ok a => exact i a rfl h
theorem Rp.same {α : Type} {H H1 : Hp} {r : R α} {k : α → Prop} (h : Rp E mg H r k) (e : Same H H1) : Rp E mg H1 r k := by
  cases r with
  | bad => exact h
  | err x => exact fun C H' q s => h C H' q (e.trans s)
  | ok a => exact h
theorem Rp.ok {α : Type} {H : Hp} {a : α} {k : α → Prop} (h : Rp E mg H (.ok a) k) : k a := h
theorem Rp.lift {H : Hp} {m : Bool} {o : Option (Bool × D)} {k : Rv → Prop} (h : Rp E mg H (En.lift m o) k) : ∃ nw z, o = some (nw, z) ∧ k (mk m nw z) := by
  cases o with
  | none => exact False.elim h
  | some p => exact ⟨p.1, p.2, rfl, h⟩
theorem Rp.liftB {H : Hp} {o : Option Bool} {k : Rv → Prop} (h : Rp E mg H (En.liftB o) k) : ∃ b, o = some b ∧ k (.fr false (.bool b)) := by
  cases o with
  | none => exact False.elim h
  | some p => exact ⟨p, rfl, h⟩
end

/-! ### a def's promise, by data -/
def spG (mg : Str → Option Value) (n : Nat) (g : List D → R Rv) : Sp := fun vs H Q E => vs.length = n ∧ ∃ (M : AS) (ds : List D), (∀ a, M a → ∃ o, H a = some o ∧ Mut (some o)) ∧ Dts H (fun a => ¬ M a) vs ds ∧
  Rp E mg H (g ds) fun r => ∀ v H', Same H H' → RvOk H M H H' v r → Q v H'
structure Ok (X : Cx) (Γ : FT) (E : XK) (k : Nat) : Prop where
  calm : X.calm = true
  nd : X.N.Nodup
  hu : X.A.units + 65 < cLine
  room : Room (k + 2) X.A
  tk : Takes X (fun c d _ H => E c d H)
  blt : ∀ f : Str, f ∈ ([("len" : Str), "list", "tuple", "sum", "min", "max", "int", "any", "all", "sorted", "isinstance", "range", "zip", "enumerate", "reversed", "str", "bool", "set", "dict"] : List Str) → X.mg f = none
  fns : ∀ f n g, Γ f = some (n, g) → ∃ fa fd ps, FnOk X.prog X.w X.K X.mg X.base (L2.CX X.prog X.w) k fa fd ps (spG X.mg n g) ∧ X.mg f = some (.ref fa) ∧ PySem.W.keepIn X.K (.ref fa) = true ∧ Binds X.K fd ps []

/-! ### readings -/
section
variable (Γ : FT) (E : XK) (mg : Str → Option Value)
def tE (m : ME) : TE := fun σ H Q => ∃ H0 M0 M env, EnvOk H0 M0 H M σ env ∧ Rp E mg H (evE Γ env m) fun r => ∀ v H', Same H H' → RvOk H0 M H H' v r → Q v H'
def tT (m : ME) : TT := fun σ H Q => ∃ H0 M0 M env, EnvOk H0 M0 H M σ env ∧ Rp E mg H ((evE Γ env m).bind truth) fun b => ∀ H', Same H H' → Q b H'
inductive RvOks (H0 : Hp) (M : AS) (Hs H : Hp) : List V → List Rv → Prop
  | nil : RvOks H0 M Hs H [] []
  | cons {v : V} {vs : List V} {r : Rv} {rs : List Rv} : RvOk H0 M Hs H v r → RvOks H0 M Hs H vs rs → RvOks H0 M Hs H (v :: vs) (r :: rs)
def tEs (ms : MEs) : TA := fun σ H Q => ∃ H0 M0 M env, EnvOk H0 M0 H M σ env ∧ Rp E mg H (evEs Γ env ms) fun rs => ∀ vs H', Same H H' → RvOks H0 M H H' vs rs → Q vs H'
def tO (m : MO) : TO := fun σ H Q => ∃ H0 M0 M env, EnvOk H0 M0 H M σ env ∧ Rp E mg H (evO Γ env m) fun o => ∀ H', Same H H' → Q o H'
def tC (m : MO) : TT := fun σ H Q => ∃ H0 M0 M env, EnvOk H0 M0 H M σ env ∧ Rp E mg H (evC Γ env m) fun b => ∀ H', Same H H' → Q b H'
end
theorem RvOks.length {H0 : Hp} {M : AS} {Hs H : Hp} {vs : List V} {rs : List Rv} (h : RvOks H0 M Hs H vs rs) : vs.length = rs.length := by
  induction h with
  | nil => rfl
  | cons _ _ ih => rw [List.length_cons, List.length_cons, ih]
theorem anyM_mem {rs : List Rv} {r : Rv} (h : r ∈ rs) (e : r.m = true) : anyM rs = true := by
  induction rs with
  | nil => simp at h
  | cons a t ih =>
    unfold anyM
    rcases List.mem_cons.mp h with h | h
    · subst h; simp [e]
    · simp [ih h]
theorem RvOks.cns {H0 : Hp} {M : AS} {Hs H : Hp} {m : Bool} : ∀ {vs : List V} {rs : List Rv}, RvOks H0 M Hs H vs rs → (∀ r ∈ rs, r.m = true → m = true) → Cns H (Lm H0 M m) vs (rs.map Rv.d)
  | _, _, .nil, _ => .nil
  | _, _, .cons a t, h => .cons (a.cn.wk fun _ q => q.le (h _ List.mem_cons_self)) (t.cns fun r hr => h r (List.mem_cons_of_mem _ hr))
theorem RvOks.stos {H0 : Hp} {M : AS} {Hs H : Hp} : ∀ {vs : List V} {rs : List Rv} {p : Bool × List D}, RvOks H0 M Hs H vs rs → En.stos rs = .ok p → Dts H (Lm H0 M p.1) vs p.2
  | _, _, _, .nil, e => by cases e; exact .nil
  | _, _, _, .cons (r := r) (rs := rs) a t, e => by
    unfold En.stos at e
    cases e1 : En.sto r with
    | bad => rw [e1] at e; cases e
    | err x => rw [e1] at e; cases e
    | ok q =>
      cases e2 : En.stos rs with
      | bad => rw [e1, e2] at e; cases e
      | err x => rw [e1, e2] at e; cases e
      | ok u =>
        rw [e1, e2] at e
        cases e
        exact .cons ((a.sto e1).wk fun _ q => q.orl) ((t.stos e2).wk fun _ q => q.orr)

/-! ### walks over data -/
def Kp (H1 : Hp) (L : AS) (H : Hp) (L2 : AS) : Prop := (∀ a u, L a → H1 a = some u → H a = some u ∧ L2 a) ∧ ∀ a xs, Rd H1 a (.tup xs) → Rd H a (.tup xs)
theorem Kp.dt {H1 H : Hp} {L L2 : AS} (k : Kp H1 L H L2) {v : V} {d : D} (h : Dt H1 L v d) : Dt H L2 v d := Dt.go k.1 k.2 d v h
theorem Kp.rd {H1 H : Hp} {L L2 : AS} (k : Kp H1 L H L2) {a : Addr} {xs : List V} (l : L a) (h : Rd H1 a (.lst xs)) : Rd H a (.lst xs) := h.elim (fun e => .inl (k.1 _ _ l e).1) fun ⟨o, e⟩ => .inr ⟨o, (k.1 _ _ l e).1⟩
def Wk (H1 : Hp) (L : AS) (J : It) (ds : List D) : Prop := ∃ (G : Hp → Prop) (Y : Nat → Hp → V → Hp → Prop), Walk J ds.length G Y ∧ (∀ H L2, Kp H1 L H L2 → G H) ∧
  ∀ i H x H' d L2, Kp H1 L H L2 → Y i H x H' → ds[i]? = some d → Same H H' ∧ Dt H' L2 x d
theorem wk_list {K : PySem.W.Frag} {H1 : Hp} {L : AS} {a : Addr} {xs : List V} {ds : List D} (r : Rd H1 a (.lst xs)) (l : L a) (s : Dts H1 L xs ds) : Wk H1 L (Itl K a) ds := by
  refine ⟨_, _, by rw [← s.length]; exact walk_list (K := K) (a := a) (xs := xs), fun H L2 k => Or.inl (k.rd l r), fun i H x H' d L2 k y e => ?_⟩
  obtain ⟨rfl, y⟩ := y
  obtain ⟨v, e1, t⟩ := s.get e
  rw [y] at e1
  cases e1
  exact ⟨Same.refl _, k.dt t⟩
theorem wk_tup {K : PySem.W.Frag} {H1 : Hp} {L : AS} {a : Addr} {xs : List V} {ds : List D} (r : Rd H1 a (.tup xs)) (s : Dts H1 L xs ds) : Wk H1 L (Itt K a) ds := by
  refine ⟨_, _, by rw [← s.length]; exact walk_tup (K := K) (a := a) (xs := xs), fun H L2 k => Or.inl (k.2 _ _ r), fun i H x H' d L2 k y e => ?_⟩
  obtain ⟨rfl, y⟩ := y
  obtain ⟨v, e1, t⟩ := s.get e
  rw [y] at e1
  cases e1
  exact ⟨Same.refl _, k.dt t⟩
theorem wk_str {H1 : Hp} {L : AS} (z : Str) : Wk H1 L (Its z) (z.cps.toList.map fun c => .str ⟨#[c]⟩) := by
  refine ⟨_, _, by rw [List.length_map, Array.length_toList]; exact walk_str (z := z), fun H L2 k => trivial, fun i H x H' d L2 k y e => ?_⟩
  obtain ⟨rfl, c, hc, rfl⟩ := y
  rw [List.getElem?_map, show z.cps.toList[i]? = z.cps[i]? by simp, hc] at e
  cases e
  exact ⟨Same.refl _, .str _⟩
theorem wk_rng {H1 : Hp} {L : AS} (a : Int) (n : Nat) : Wk H1 L (Itr a n) (rngD a n) := by
  refine ⟨_, _, by unfold rngD; rw [List.length_map, List.length_range]; exact walk_range (lo := a) (n := n), fun H L2 k => trivial, fun i H x H' d L2 k y e => ?_⟩
  obtain ⟨rfl, rfl⟩ := y
  unfold rngD at e
  rw [List.getElem?_map] at e
  by_cases hi : i < n
  · rw [List.getElem?_range hi] at e
    cases e
    exact ⟨Same.refl _, .int _⟩
  · rw [List.getElem?_eq_none (by simpa using hi)] at e
    cases e
theorem wk_rngC {H1 : Hp} {L : AS} (a c : Int) (n : Nat) : Wk H1 L (Itc a c n) (rngC a c n) := by
  refine ⟨_, _, by unfold rngC; rw [List.length_map, List.length_range]; exact walk_rangeC (lo := a) (c := c) (n := n), fun H L2 k => trivial, fun i H x H' d L2 k y e => ?_⟩
  obtain ⟨rfl, rfl⟩ := y
  unfold rngC at e
  rw [List.getElem?_map] at e
  by_cases hi : i < n
  · rw [List.getElem?_range hi] at e
    cases e
    exact ⟨Same.refl _, .int _⟩
  · rw [List.getElem?_eq_none (by simpa using hi)] at e
    cases e
theorem wk_rev {K : PySem.W.Frag} {H1 : Hp} {L : AS} {a : Addr} {xs : List V} {ds : List D} (r : Rd H1 a (.lst xs)) (l : L a) (s : Dts H1 L xs ds) : Wk H1 L (Itv K a xs.length) ds.reverse := by
  refine ⟨_, _, by rw [List.length_reverse, ← s.length]; exact walk_rev (K := K) (a := a) (xs := xs), fun H L2 k => Or.inl (k.rd l r), fun i H x H' d L2 k y e => ?_⟩
  obtain ⟨rfl, y⟩ := y
  have hi : i < ds.length := by
    have := (List.getElem?_eq_some_iff.mp e).1
    rwa [List.length_reverse] at this
  rw [List.getElem?_reverse hi] at e
  obtain ⟨v, e1, t⟩ := s.get e
  rw [s.length] at y
  rw [y] at e1
  cases e1
  exact ⟨Same.refl _, k.dt t⟩
/-- data as a source -/
theorem src_cn {H1 : Hp} {L : AS} {x : V} {d : D} {ds : List D} (h : Cn H1 L x d) (hl : ∀ a, x = .ref a → (∃ l, d = .list l) → L a) (e : itemsOf d = some ds) : ∃ xs G, SrcOf x xs G ∧ Dts H1 L xs ds ∧ G H1 ∧ ∀ H L2, Kp H1 L H L2 → G H := by
  cases h <;> simp only [itemsOf, reduceCtorEq] at e
  · rename_i z
    cases e
    refine ⟨_, _, srcOf_str z, ?_, trivial, fun _ _ _ => trivial⟩
    unfold signsV
    generalize z.cps.toList = l
    induction l with
    | nil => exact .nil
    | cons c l ih => exact .cons (.str _) ih
  · rename_i r s
    cases e
    exact ⟨_, _, srcOf_list _ _, s, r, fun H L2 k => k.rd (hl _ rfl ⟨_, rfl⟩) r⟩
  · rename_i r s
    cases e
    exact ⟨_, _, srcOf_tup _ _, s, r, fun H L2 k => k.2 _ _ r⟩
theorem wk_z2 {H1 : Hp} {L : AS} {xs ys : List V} {ds es : List D} {G1 G2 : Hp → Prop} (s1 : Dts H1 L xs ds) (s2 : Dts H1 L ys es) (k1 : ∀ H L2, Kp H1 L H L2 → G1 H) (k2 : ∀ H L2, Kp H1 L H L2 → G2 H) :
    Wk H1 L (Jz2 xs ys G1 G2) (List.zipWith (fun d e => .tuple [d, e]) ds es) := by
  refine ⟨fun H => G1 H ∧ G2 H, fun i H v H' => ∃ T x y, v = .ref T ∧ H T = none ∧ H' = upd H T (.tup [x, y]) ∧ xs[i]? = some x ∧ ys[i]? = some y, ⟨fun i H hi g => ?_, fun H g => ?_, fun i H x H' hi g y => y⟩, fun H L2 k => ⟨k1 H L2 k, k2 H L2 k⟩, fun i H x H' d L2 k y e => ?_⟩
  · rw [List.length_zipWith] at hi
    exact ⟨by rw [s1.length]; omega, by rw [s2.length]; omega, g.1, g.2⟩
  · rw [List.length_zipWith]
    have e1 := s1.length
    have e2 := s2.length
    refine ⟨by omega, by omega, by omega, g.1, g.2⟩
  · obtain ⟨T, u, v, rfl, hT, rfl, hu, hv⟩ := y
    obtain ⟨d1, e1, t1⟩ := s1.getV hu
    obtain ⟨d2, e2, t2⟩ := s2.getV hv
    rw [List.getElem?_zipWith, e1, e2] at e
    cases e
    have sm : Same H (upd H T (.tup [u, v])) := same_new hT
    exact ⟨sm, .tup (.inl upd_same) (.cons (sm_dt sm (k.dt t1)) (.cons (sm_dt sm (k.dt t2)) .nil))⟩
theorem wk_z3 {H1 : Hp} {L : AS} {xs ys zs : List V} {ds es fs : List D} {G1 G2 G3 : Hp → Prop} (s1 : Dts H1 L xs ds) (s2 : Dts H1 L ys es) (s3 : Dts H1 L zs fs) (k1 : ∀ H L2, Kp H1 L H L2 → G1 H) (k2 : ∀ H L2, Kp H1 L H L2 → G2 H) (k3 : ∀ H L2, Kp H1 L H L2 → G3 H) :
    Wk H1 L (Jz3 xs ys zs G1 G2 G3) (List.zipWith (fun d p => match p with | (e, f) => .tuple [d, e, f]) ds (es.zip fs)) := by
  refine ⟨fun H => G1 H ∧ G2 H ∧ G3 H, fun i H v H' => ∃ T x y z, v = .ref T ∧ H T = none ∧ H' = upd H T (.tup [x, y, z]) ∧ xs[i]? = some x ∧ ys[i]? = some y ∧ zs[i]? = some z, ⟨fun i H hi g => ?_, fun H g => ?_, fun i H x H' hi g y => y⟩, fun H L2 k => ⟨k1 H L2 k, k2 H L2 k, k3 H L2 k⟩, fun i H x H' d L2 k y e => ?_⟩
  · rw [List.length_zipWith, List.length_zip] at hi
    exact ⟨by rw [s1.length]; omega, by rw [s2.length]; omega, by rw [s3.length]; omega, g.1, g.2.1, g.2.2⟩
  · rw [List.length_zipWith, List.length_zip]
    have e1 := s1.length
    have e2 := s2.length
    have e3 := s3.length
    refine ⟨by omega, by omega, by omega, by omega, g.1, g.2.1, g.2.2⟩
  · obtain ⟨T, u, v, w, rfl, hT, rfl, hu, hv, hw⟩ := y
    obtain ⟨d1, e1, t1⟩ := s1.getV hu
    obtain ⟨d2, e2, t2⟩ := s2.getV hv
    obtain ⟨d3, e3, t3⟩ := s3.getV hw
    have e4 : (es.zip fs)[i]? = some (d2, d3) := PyProof.Rows.zip_get e2 e3
    rw [List.getElem?_zipWith, e1, e4] at e
    cases e
    have sm : Same H (upd H T (.tup [u, v, w])) := same_new hT
    exact ⟨sm, .tup (.inl upd_same) (.cons (sm_dt sm (k.dt t1)) (.cons (sm_dt sm (k.dt t2)) (.cons (sm_dt sm (k.dt t3)) .nil)))⟩
theorem enumD_get : ∀ (ds : List D) (k i : Nat), (enumD k ds)[i]? = ds[i]?.map fun d => .tuple [.int ((k + i : Nat) : Int), d]
  | [], _, _ => by simp [enumD]
  | d :: ds, k, 0 => by simp [enumD]
  | d :: ds, k, i + 1 => by
    simp only [enumD, List.getElem?_cons_succ]
    rw [enumD_get ds (k + 1) i]
    congr 1
    funext d
    rw [show k + 1 + i = k + (i + 1) by omega]
theorem enumD_length : ∀ (ds : List D) (k : Nat), (enumD k ds).length = ds.length
  | [], _ => rfl
  | d :: ds, k => by simp [enumD, enumD_length ds]
theorem wk_en {H1 : Hp} {L : AS} {xs : List V} {ds : List D} {G1 : Hp → Prop} (s1 : Dts H1 L xs ds) (k1 : ∀ H L2, Kp H1 L H L2 → G1 H) : Wk H1 L (Jen xs G1) (enumD 0 ds) := by
  refine ⟨G1, fun i H v H' => ∃ T x, v = .ref T ∧ H T = none ∧ H' = upd H T (.tup [.int (i : Nat), x]) ∧ xs[i]? = some x, ⟨fun i H hi g => ?_, fun H g => ?_, fun i H x H' hi g y => y⟩, k1, fun i H x H' d L2 k y e => ?_⟩
  · rw [enumD_length] at hi
    exact ⟨by rw [s1.length]; exact hi, g⟩
  · rw [enumD_length]
    exact ⟨s1.length.symm, g⟩
  · obtain ⟨T, u, rfl, hT, rfl, hu⟩ := y
    obtain ⟨d1, e1, t1⟩ := s1.getV hu
    rw [enumD_get, e1] at e
    simp only [Option.map_some, Option.some.injEq, Nat.zero_add] at e
    subst e
    have sm : Same H (upd H T (.tup [.int (i : Nat), u])) := same_new hT
    exact ⟨sm, .tup (.inl upd_same) (.cons (.int _) (.cons (sm_dt sm (k.dt t1)) .nil))⟩

/-! ### iterables, by their rules -/
section
variable {X : Cx} {tg : Expr}
theorem pi_val {e : Expr} {te : TE} (he : PE X e te) : PI X tg e (fun σ H R => te σ H fun x H1 => (∃ a xs, x = .ref a ∧ SqL X.K H1 a xs ∧ R (Itl X.K a) H1) ∨ (∃ a xs, x = .ref a ∧ SqT X.K H1 a xs ∧ R (Itt X.K a) H1) ∨ ∃ z, x = .str z ∧ R (Its z) H1) := by
  refine ⟨fun pins s σ H R I h => ?_⟩
  refine thn (he.run pins s σ H _ I h) fun v s1 ⟨x, H1, I1, r1, q1⟩ => ?_
  rcases q1 with ⟨a, xs, rfl, hq, q⟩ | ⟨a, xs, rfl, hq, q⟩ | ⟨z, rfl, q⟩
  · cases r1
    obtain ⟨its, rv, p, hz⟩ := I1.list hq
    refine wpAny_pyIter_list p.isList ?_
    exact pi_one (tk := s1.toks) I1 _ (turn_list a _) ⟨_, Heap.get?_push_size _ rfl, rfl, rfl⟩ q
  · cases r1
    obtain ⟨its, rv, p, hz⟩ := I1.tuple hq
    refine wpAny_pyIter_tuple (show s1.heap.IsTuple a its.toArray from p) ?_
    exact pi_one (tk := s1.toks) I1 _ (turn_tuple a _) ⟨_, Heap.get?_push_size _ rfl, rfl, rfl⟩ q
  · obtain ⟨t, rfl⟩ := r1
    cases ha : z.cps.all (· < 128)
    · exact wpAny_pyIter_wide ha (pi_one (tk := s1.toks) I1 _ (turn_str _ z t "str_iterator" (.inr rfl)) ⟨_, Heap.get?_push_size _ rfl, rfl, rfl⟩ q)
    · exact wpAny_pyIter_ascii ha (pi_one (tk := s1.toks) I1 _ (turn_str _ z t "str_ascii_iterator" (.inl rfl)) ⟨_, Heap.get?_push_size _ rfl, rfl, rfl⟩ q)
theorem fresh_fp {pins : List (Addr × Obj)} {σ : L2.St} {H : Hp} {s : Shared} (I : Inv X pins σ H s) {b : Addr} (h : s.heap.objs.size ≤ b) : FpOk X pins H b := I.fpOk h (I.hok.fresh h)
theorem pi_z2 {e e2 : Expr} {ta : TA} {p pos tpos : Pos} {elts : List Expr} {kk : Nat} (hg : Gl X "zip") (hm : X.mg "zip" = none) (ha : PA X [e, e2] ta)
    (hs : starEach [e, e2] X.env = (false, eval e X.env) :: starEach [e2] X.env) (hpl : (backTo pos (starEach [e2] X.env)).any (·.1) = false) :
    PI X (.Tuple elts kk tpos) (.Call (.Name "zip" p) [e, e2] [] pos) (fun σ H R => ta σ H fun vs H1 => ∃ x y xs ys G1 G2, vs = [x, y] ∧ SrcOf x xs G1 ∧ SrcOf y ys G2 ∧ G1 H1 ∧ G2 H1 ∧ R (Jz2 xs ys G1 G2) H1) := by
  refine ⟨fun pins s σ H R I h => ?_⟩
  refine Call_ (ld_blt I hg hm PyProof.Rows.boot_zip (PyProof.Rows.callWith_type1 (thn (ha.run pos pins s σ H _ I h) fun us s1 ⟨vs, H1, I1, r1, q1⟩ => ?_) hs hpl))
  obtain ⟨x, y, xs, ys, G1, G2, rfl, S1, S2, g1, g2, q⟩ := q1
  obtain ⟨u1, u2, rfl, ru1, ru2⟩ := vals2 r1
  obtain ⟨o1, c1, Os1, B1⟩ := S1 u1 ru1
  obtain ⟨o2, c2, Os2, B2⟩ := S2 u2 ru2
  obtain ⟨lt1, ⟨b1, bg1, bh1⟩, _⟩ := B1.now I1 g1
  obtain ⟨lt2, ⟨b2, bg2, bh2⟩, _⟩ := B2.now I1 g2
  refine zip_begins2 bg1 bg2 bh1 bh2 fun h' hz hTI hTO e1 e2 hsz hk => wpAny_pyIter_zip hz ?_
  have I2 : Inv X pins σ H1 { s1 with heap := h' } := I1.kept (t' := s1.toks) hk
  have n1 : s1.heap.objs.size ∉ c1 := fun q => absurd (lt1 _ q) (Nat.lt_irrefl _)
  have n2 : s1.heap.objs.size + 1 ∉ c2 := fun q => absurd (lt2 _ q) (by
    intro hh
    have : (s1.heap.objs.size : Nat) + 1 < s1.heap.objs.size := hh
    omega)
  refine ⟨s1.heap.objs.size + 4, [s1.heap.objs.size + 4, s1.heap.objs.size + 2, s1.heap.objs.size + 3, s1.heap.objs.size, s1.heap.objs.size + 1], _, _, H1, rfl, I2, turn_z2 B1 B2 (zip_sep2 lt1 lt2) n1 n2, ⟨hz, hTI, ⟨_, _, hTO⟩, B1.at0 _ _ e1, B2.at0 _ _ e2⟩, fun c hcm => ?_, q⟩
  refine fresh_fp I1 ?_
  have e' : c = s1.heap.objs.size + 4 ∨ c = s1.heap.objs.size + 2 ∨ c = s1.heap.objs.size + 3 ∨ c = s1.heap.objs.size ∨ c = s1.heap.objs.size + 1 := by simpa using hcm
  rcases e' with z | z | z | z | z
  · rw [z]; exact Nat.le_add_right _ _
  · rw [z]; exact Nat.le_add_right _ _
  · rw [z]; exact Nat.le_add_right _ _
  · rw [z]; exact Nat.le_refl _
  · rw [z]; exact Nat.le_add_right _ _
theorem pi_z3 {e e2 e3 : Expr} {ta : TA} {p pos tpos : Pos} {elts : List Expr} {kk : Nat} (hg : Gl X "zip") (hm : X.mg "zip" = none) (ha : PA X [e, e2, e3] ta)
    (hs : starEach [e, e2, e3] X.env = (false, eval e X.env) :: starEach [e2, e3] X.env) (hpl : (backTo pos (starEach [e2, e3] X.env)).any (·.1) = false) :
    PI X (.Tuple elts kk tpos) (.Call (.Name "zip" p) [e, e2, e3] [] pos) (fun σ H R => ta σ H fun vs H1 => ∃ x y z xs ys zs G1 G2 G3, vs = [x, y, z] ∧ SrcOf x xs G1 ∧ SrcOf y ys G2 ∧ SrcOf z zs G3 ∧ G1 H1 ∧ G2 H1 ∧ G3 H1 ∧ R (Jz3 xs ys zs G1 G2 G3) H1) := by
  refine ⟨fun pins s σ H R I h => ?_⟩
  refine Call_ (ld_blt I hg hm PyProof.Rows.boot_zip (PyProof.Rows.callWith_type1 (thn (ha.run pos pins s σ H _ I h) fun us s1 ⟨vs, H1, I1, r1, q1⟩ => ?_) hs hpl))
  obtain ⟨x, y, z, xs, ys, zs, G1, G2, G3, rfl, S1, S2, S3, g1, g2, g3, q⟩ := q1
  cases r1 with | cons ru1 r1 => cases r1 with | cons ru2 r1 => cases r1 with | cons ru3 r1 => cases r1 with | nil =>
  obtain ⟨o1, c1, Os1, B1⟩ := S1 _ ru1
  obtain ⟨o2, c2, Os2, B2⟩ := S2 _ ru2
  obtain ⟨o3, c3, Os3, B3⟩ := S3 _ ru3
  obtain ⟨lt1, ⟨b1, bg1, bh1⟩, _⟩ := B1.now I1 g1
  obtain ⟨lt2, ⟨b2, bg2, bh2⟩, _⟩ := B2.now I1 g2
  obtain ⟨lt3, ⟨b3, bg3, bh3⟩, _⟩ := B3.now I1 g3
  refine zip_begins3 bg1 bg2 bg3 bh1 bh2 bh3 fun h' hz hTI hTO e1 e2 e3 hsz hk => wpAny_pyIter_zip hz ?_
  have I2 : Inv X pins σ H1 { s1 with heap := h' } := I1.kept (t' := s1.toks) hk
  have n1 : s1.heap.objs.size ∉ c1 := fun q => absurd (lt1 _ q) (Nat.lt_irrefl _)
  have n2 : s1.heap.objs.size + 1 ∉ c2 := fun q => absurd (lt2 _ q) (by
    intro hh
    have : (s1.heap.objs.size : Nat) + 1 < s1.heap.objs.size := hh
    omega)
  have n3 : s1.heap.objs.size + 2 ∉ c3 := fun q => absurd (lt3 _ q) (by
    intro hh
    have : (s1.heap.objs.size : Nat) + 2 < s1.heap.objs.size := hh
    omega)
  refine ⟨s1.heap.objs.size + 5, [s1.heap.objs.size + 5, s1.heap.objs.size + 3, s1.heap.objs.size + 4, s1.heap.objs.size, s1.heap.objs.size + 1, s1.heap.objs.size + 2], _, _, H1, rfl, I2, turn_z3 B1 B2 B3 (zip_sep3 lt1 lt2 lt3) n1 n2 n3, ⟨hz, hTI, ⟨_, _, _, hTO⟩, B1.at0 _ _ e1, B2.at0 _ _ e2, B3.at0 _ _ e3⟩, fun c hcm => ?_, q⟩
  refine fresh_fp I1 ?_
  have e' : c = s1.heap.objs.size + 5 ∨ c = s1.heap.objs.size + 3 ∨ c = s1.heap.objs.size + 4 ∨ c = s1.heap.objs.size ∨ c = s1.heap.objs.size + 1 ∨ c = s1.heap.objs.size + 2 := by simpa using hcm
  rcases e' with z | z | z | z | z | z
  · rw [z]; exact Nat.le_add_right _ _
  · rw [z]; exact Nat.le_add_right _ _
  · rw [z]; exact Nat.le_add_right _ _
  · rw [z]; exact Nat.le_refl _
  · rw [z]; exact Nat.le_add_right _ _
  · rw [z]; exact Nat.le_add_right _ _
theorem pi_en {e : Expr} {ta : TA} {p pos tpos : Pos} {elts : List Expr} {kk : Nat} (hg : Gl X "enumerate") (hm : X.mg "enumerate" = none) (ha : PA X [e] ta) (hs : starEach [e] X.env = (false, eval e X.env) :: starEach [] X.env) :
    PI X (.Tuple elts kk tpos) (.Call (.Name "enumerate" p) [e] [] pos) (fun σ H R => ta σ H fun vs H1 => (∃ a xs, vs = [.ref a] ∧ Rd H1 a (.lst xs) ∧ R (Jen xs fun H => Rd H a (.lst xs)) H1) ∨ ∃ z, vs = [.str z] ∧ R (Jen (signsV z) fun _ => True) H1) := by
  refine ⟨fun pins s σ H R I h => ?_⟩
  refine Call_ (ld_blt I hg hm boot_enumerate (PyProof.Rows.callWith_type1 (thn (ha.run pos pins s σ H _ I h) fun us s1 ⟨vs, H1, I1, r1, q1⟩ => ?_) hs rfl))
  have fp : ∀ b, b ∈ [s1.heap.objs.size + 1, s1.heap.objs.size] → FpOk X pins H1 b := fun b hb => by
    have e' : b = s1.heap.objs.size + 1 ∨ b = s1.heap.objs.size := by simpa using hb
    refine fresh_fp I1 ?_
    rcases e' with z | z
    · rw [z]; exact Nat.le_add_right _ _
    · rw [z]; exact Nat.le_refl _
  rcases q1 with ⟨a, xs, rfl, hq, q⟩ | ⟨z, rfl, q⟩
  · obtain ⟨u, rfl, ru⟩ := vals1 r1
    cases ru
    obtain ⟨its, rv, p', hz⟩ := I1.list (.inl hq)
    refine call_enumerate_list p'.isList fun h' he hit hsz hk => wpAny_pyIter_enum he ?_
    have I2 : Inv X pins σ H1 { s1 with heap := h' } := I1.kept (t' := s1.toks) hk
    have ha : s1.heap.objs.size ∉ [a] := fun q => by
      have e : s1.heap.objs.size = a := by simpa using q
      exact absurd p'.lt (by rw [← e]; exact Nat.lt_irrefl _)
    have ha1 : s1.heap.objs.size + 1 ∉ [a] := fun q => by
      have e : s1.heap.objs.size + 1 = a := by simpa using q
      have := p'.lt
      rw [← e] at this
      exact absurd this (by
        intro hh
        have : (s1.heap.objs.size : Nat) + 1 < s1.heap.objs.size := hh
        omega)
    exact ⟨s1.heap.objs.size + 1, [s1.heap.objs.size + 1, s1.heap.objs.size], _, _, H1, rfl, I2, turn_en (src_list a xs) ha (Nat.succ_ne_self _) ha1, ⟨⟨_, he⟩, hit⟩, fp, q⟩
  · obtain ⟨u, rfl, ru⟩ := vals1 r1
    obtain ⟨t, rfl⟩ := ru
    refine call_enumerate_str fun h' he hit hsz hk => wpAny_pyIter_enum he ?_
    have I2 : Inv X pins σ H1 { s1 with heap := h' } := I1.kept (t' := s1.toks) hk
    exact ⟨s1.heap.objs.size + 1, [s1.heap.objs.size + 1, s1.heap.objs.size], _, _, H1, rfl, I2, turn_en (src_str z t) (by simp) (Nat.succ_ne_self _) (by simp), ⟨⟨_, he⟩, hit⟩, fp, q⟩
end
end En
set_option Elab.async false
set_option linter.all false
set_option maxRecDepth 100000
set_option maxHeartbeats 4000000
/-! list(reversed(x)), x a list -/
namespace RT
open PySem PySem.Spec PyProof.Rows L2
section
variable {prog : Program} {w : World} {A : Around} {E : Value → Shared → Prop} {s : Shared}
theorem extend_rev {R : Result → Shared → Prop} {it l S : Addr} {items : Array Value} (hh : A.handled = none) (hit : s.heap.IsRevIter it l ((items.size : Int) - 1)) (hl : s.heap.IsList l items) (hne : l ≠ it) (hn : items.size ≤ sizeLine)
    (hSi : S ≠ it) (hSl : S ≠ l) (res : Value) (c₀ : Nat) (hS : s.heap.get? S = some { cls := .type "list", data := .seq #[] c₀ })
    (hR : ∀ h' tk acc' c', (∀ b o, b ≠ it → b ≠ S → s.heap.get? b = some o → h'.get? b = some o) → h'.get? S = some { cls := .type "list", dict := none, data := .seq acc' c', slots := #[] } →
      ItemsOf (fun i v => items[items.size - 1 - i]? = some v) acc' items.size → R (.ok (.ret res)) { s with heap := h', toks := tk }) :
    wpAny (model prog w) A.in1 (Builtin.List.listExtendWith (.ref S) (.ref it) res)
      (fun fin s' => match fin with | .done f => R (.ok f) s' | .again c' => c'.quiet = true ∧ codeAny (model prog w) A c' R s') (fun e s' => R (.error e) s') s := by
  have W := (Walks.listRev (prog := prog) (w := w) (A := A.in1) hh it l hne items).toS
  have hSf : S ∉ [it, l] := by simp only [List.mem_cons, List.not_mem_nil, or_false, not_or]; exact ⟨hSi, hSl⟩
  have hT : s.TypeIs (.ref it) "list_reverseiterator" := Heap.IsRevIter.typeIs hit
  have h1 : Builtin.List.listSameRef (.ref S) (.ref it) = false := by simp [Builtin.List.listSameRef, hSi]
  unfold Builtin.List.listExtendWith
  refine wpAny_bind (wpAny_typeOf hT ?_)
  rw [if_neg (by rw [h1]; decide)]
  refine wpAny_bind (wpAny_pyIter_revIter hit ?_)
  refine wpAny_bind (wpAny_holding ?_)
  unfold Builtin.List.listLengthHint
  refine wpAny_bind (wpAny_specialOf hT nolen_lri ?_)
  show wpAny _ A.in1 (specialOf (Value.ref it) (Str.ofString "__length_hint__") >>= _) _ _ _
  refine wpAny_bind (wpAny_specialOf hT hint_lri ?_)
  generalize hid : ("list_reverseiterator.__length_hint__" : String) = id0
  wp_delta
  rw [show splitId id0 = some ("list_reverseiterator", "__length_hint__") from by subst hid; decide +kernel]
  subst hid
  refine wpAny_bind (wpAny_isInstance (b := true) hT (by rw [isSubtype_type]; kernel_rfl) ?_)
  refine wpAny_pure ?_
  rw [if_neg (by decide)]
  have e0 : ((items.size : Nat) : Int) - 1 - ((0 : Nat) : Int) = (items.size : Int) - 1 := by omega
  refine wpAny_pure ⟨plainId_quiet F.plain_extend_loop _, codeAny_extend_loopS W hn _ hSf _ items.size 0 _ _ _ rfl (Nat.zero_le _) ⟨Nat.zero_le _, by rw [e0]; exact hit, hl⟩ hS (ItemsOf.nil _) fun s' acc' c' hm hS' hacc => ?_⟩
  rw [Moved.eq_with hm]
  refine hR s'.heap s'.toks acc' c' (fun b o hb hb2 e => hm.heap b o (fun hmem => ?_) e) hS' hacc
  rcases List.mem_cons.mp hmem with e' | hmem
  · exact hb2 e'
  · exact hb (List.mem_singleton.mp hmem)
theorem list_init_rev {R : Result → Shared → Prop} {it l S : Addr} {items : Array Value} (hh : A.handled = none) (hit : s.heap.IsRevIter it l ((items.size : Int) - 1)) (hl : s.heap.IsList l items) (hne : l ≠ it) (hn : items.size ≤ sizeLine)
    (hSi : S ≠ it) (hSl : S ≠ l) (hS : s.heap.get? S = some { cls := .type "list", data := .seq #[] })
    (hR : ∀ h' tk acc' c', (∀ b o, b ≠ it → b ≠ S → s.heap.get? b = some o → h'.get? b = some o) → h'.get? S = some { cls := .type "list", dict := none, data := .seq acc' c', slots := #[] } →
      ItemsOf (fun i v => items[items.size - 1 - i]? = some v) acc' items.size → R (.ok (.ret .none)) { s with heap := h', toks := tk }) :
    wpAny (model prog w) A.in1 (Builtin.«list.__init__» ⟨[.ref S, .ref it], []⟩)
      (fun fin s' => match fin with | .done f => R (.ok f) s' | .again c' => c'.quiet = true ∧ codeAny (model prog w) A c' R s') (fun e s' => R (.error e) s') s := by
  show wpAny _ _ (do let old ← Builtin.List.listItems (.ref S); Builtin.List.listUpdate (.ref S) (fun _ => #[]); letGo old.toList.reverse; Builtin.List.listExtendWith (.ref S) (.ref it) .none) _ _ s
  refine wpAny_bind ?_
  unfold Builtin.List.listItems
  refine wpAny_bind (wpAny_seqItems hS rfl (wpAny_pure ?_))
  show wpAny _ _ (updateSeq S (fun _ => #[]) >>= fun _ => letGo (#[] : Array Value).toList.reverse >>= fun _ => Builtin.List.listExtendWith (.ref S) (.ref it) .none) _ _ s
  refine wpAny_bind (wpAny_updateSeq hS rfl ?_)
  have hS₂ := Heap.get?_update_self (Obj.mapSeq (fun _ => (#[] : Array Value))) hS rfl
  have oth : ∀ b o, b ≠ S → s.heap.get? b = some o → (s.heap.update S (Obj.mapSeq (fun _ => (#[] : Array Value)))).get? b = some o :=
    fun b o hb e => (Heap.get?_update_other _ _ (Ne.symm hb)).trans e
  obtain ⟨ol, hol, hcl⟩ := id hl
  have hl2 : (s.heap.update S (Obj.mapSeq (fun _ => (#[] : Array Value)))).IsList l items := ⟨ol, oth l ol (Ne.symm hSl) hol, hcl⟩
  have hit2 : (s.heap.update S (Obj.mapSeq (fun _ => (#[] : Array Value)))).IsRevIter it l ((items.size : Int) - 1) := hit.at fun o e => oth it o (Ne.symm hSi) e
  refine wpAny_bind (wpAny_letGo ?_)
  refine extend_rev (s := { s with heap := s.heap.update S (Obj.mapSeq (fun _ => (#[] : Array Value))) }) hh hit2 hl2 hne hn hSi hSl .none _ hS₂ fun h' tk acc' c' hk hS' hacc => ?_
  exact hR h' tk acc' c' (fun b o hb hb2 e => hk b o hb hb2 (oth b o hb2 e)) hS' hacc
theorem call_list_rev {it l : Addr} {items : Array Value} {Q : Value → Shared → Prop} (hh : A.handled = none) (hit : s.heap.IsRevIter it l ((items.size : Int) - 1)) (hl : s.heap.IsList l items) (hne : l ≠ it) (hn : items.size ≤ sizeLine)
    (hQ : ∀ h' tk acc' c', (∀ b o, b ≠ it → s.heap.get? b = some o → h'.get? b = some o) →
      h'.get? s.heap.objs.size = some { cls := .type "list", dict := none, data := .seq acc' c', slots := #[] } → ItemsOf (fun i v => items[items.size - 1 - i]? = some v) acc' items.size → Q (.ref s.heap.objs.size) { s with heap := h', toks := tk }) :
    wpAny (model prog w) A (call (.type "list") [.ref it]) Q E s := by
  refine callType_codes (Q₁ := fun obj s₁ => obj = .ref s.heap.objs.size ∧ s₁ = { s with heap := s.heap.push { cls := .type "list", data := .seq #[] } }) F.called_list (F.typeCall_list_1 _) F.entry_list_init
    (code_list_new _ ⟨rfl, rfl⟩) fun obj s₁ h₁ => ?_
  obtain ⟨rfl, rfl⟩ := h₁
  have hS : (s.heap.push { cls := .type "list", data := .seq #[] }).get? s.heap.objs.size = some { cls := .type "list", data := .seq #[] } := Heap.get?_push_size _ rfl
  obtain ⟨oi, hoi, _⟩ := id hit
  obtain ⟨ol, hol, _⟩ := id hl
  refine ⟨⟨_, hS, rfl⟩, F.args_list_init_2 _ _, list_init_rev (A := A.in1) hh (hit.at fun o e => Heap.get?_push_of_some _ e) (hl.push _) hne hn (Nat.ne_of_gt (Heap.lt_size hoi)) (Nat.ne_of_gt (Heap.lt_size hol)) hS fun h' tk acc' c' hk hS' hacc => ?_⟩
  exact ⟨rfl, hQ h' tk acc' c' (fun b o hb e => hk b o hb (Nat.ne_of_lt (Heap.lt_size e)) (Heap.get?_push_of_some _ e)) hS' hacc⟩
end
end RT
namespace L2
open PySem PySem.Spec PyProof.Rows RT
def tLstRev (K : PySem.W.Frag) (te : TE) : TE := fun σ H Q => te σ H fun v H1 => ∃ (a : Addr) (xs : List V), v = .ref a ∧ SqL K H1 a xs ∧ ∀ q, H1 q = none → Q (.ref q) (upd H1 q (.lst xs.reverse))
section
variable {X : Cx}
theorem pe_lstRev {e : Expr} {te : TE} {p p2 pos pos2 : Pos} (hc : X.calm = true) (hg : Gl X "list") (hm : X.mg "list" = none) (hg2 : Gl X "reversed") (hm2 : X.mg "reversed" = none) (he : PE X e te)
    (hs : starEach [e] X.env = (false, eval e X.env) :: starEach [] X.env)
    (hs2 : starEach [.Call (.Name "reversed" p2) [e] [] pos2] X.env = (false, eval (.Call (.Name "reversed" p2) [e] [] pos2) X.env) :: starEach [] X.env) :
    PE X (.Call (.Name "list" p) [.Call (.Name "reversed" p2) [e] [] pos2] [] pos) (tLstRev X.K te) := by
  refine ⟨fun pins s σ H Q I h => ?_⟩
  refine Call_ (ld_blt I hg hm boot_list (PyProof.Rows.callWith_type1 (args_cons (Call_ (ld_blt I hg2 hm2 PyProof.Rows.boot_reversed (PyProof.Rows.callWith_type1 (args_cons (thn (he.run pins s σ H _ I h) fun u s1 ⟨v, H1, I1, r1, q1⟩ => args_nil ?_) hs) hs rfl))) hs2) hs2 rfl))
  obtain ⟨a, xs, ev, hq, q⟩ := q1
  subst ev
  obtain rfl : u = Value.ref a := r1
  obtain ⟨its, rv, p', hz⟩ := I1.list hq
  refine call_reversed_list p'.isList (args_nil ?_)
  have k0 : ∀ b o, s1.heap.get? b = some o → (s1.heap.push (revObj a ((its.toArray.size : Int) - 1))).get? b = some o := fun b o e => Heap.get?_push_of_some _ e
  have I2 : Inv X pins σ H1 { s1 with heap := s1.heap.push (revObj a ((its.toArray.size : Int) - 1)) } := I1.kept (t' := s1.toks) k0
  obtain ⟨f0, f1, f2, f3, f4, f5⟩ := I1.fpOk (H' := H1) (b := s1.heap.objs.size) (Nat.le_refl _) (I1.hok.fresh (Nat.le_refl _))
  have hl := p'.isList
  obtain ⟨ol, hol, _⟩ := id hl
  have hne : a ≠ s1.heap.objs.size := Nat.ne_of_lt (Heap.lt_size hol)
  have hn : its.toArray.size ≤ sizeLine := by rw [List.size_toArray, ← rv.length]; exact hz
  refine call_list_rev (s := { s1 with heap := s1.heap.push (revObj a ((its.toArray.size : Int) - 1)) }) (I1.ok.hd hc) ⟨_, Heap.get?_push_size _ rfl, rfl, rfl⟩ (hl.push _) hne hn fun h' tk acc c' hk hS hi => ?_
  have hfr : H1 (s1.heap.push (revObj a ((its.toArray.size : Int) - 1))).objs.size = none := I2.hok.fresh (Nat.le_refl _)
  have I3 : Inv X pins σ (upd H1 (s1.heap.push (revObj a ((its.toArray.size : Int) - 1))).objs.size (.lst xs.reverse)) { s1 with heap := h', toks := tk } := by
    refine I2.turnedNew (ch := [s1.heap.objs.size]) (fun b o hb e => hk b o (fun z => hb (by simp [z])) e) (fun b hb => ?_) (Nat.le_refl _) (show ObjOk X.prog X.w _ _ _ (.lst xs.reverse) from ⟨by rw [List.length_reverse]; exact hz, acc.toList, c', vals_rev rv hi, ?_⟩)
    · obtain rfl := List.mem_singleton.mp hb
      exact I1.fpOk (Nat.le_refl _) (I1.hok.fresh (Nat.le_refl _))
    · rw [Array.toArray_toList]
      exact hS
  exact ⟨.ref _, _, I3, rfl, q _ hfr⟩
end
end L2
set_option Elab.async false
set_option linter.all false
set_option maxRecDepth 100000
set_option maxHeartbeats 4000000
namespace En
open PySem PySem.Spec PyProof.Rows L2

/-! ### the written program against the text -/
def kL : Option NameKind → Bool
  | some .local => true
  | some .cell => true
  | _ => false
def slotOk (N : List Str) (sc : Scope) (i : Nat) (x : Str) : Bool :=
  decide (N[i]? = some x) && (kL (sc.names.lookup x) || decide (sc.names.lookup x = some .free)) && !(x == "__debug__") && !(x == "__classdict__")
def glOk (sc : Scope) (x : Str) : Bool := decide (sc.names.lookup x = some .globalImplicit) && !(x == "__debug__")
def tgOk (N : List Str) (sc : Scope) (i : Nat) : Expr → Bool
  | .Name x _ => decide (N[i]? = some x) && kL (sc.names.lookup x)
  | _ => false
def tgsOk (N : List Str) (sc : Scope) : List Nat → List Expr → Bool
  | [], [] => true
  | i :: l, e :: es => tgOk N sc i e && tgsOk N sc l es
  | _, _ => false
def okG (N : List Str) (sc : Scope) : MG → Expr → Bool
  | .n i, e => tgOk N sc i e
  | .t l, .Tuple es _ _ => tgsOk N sc l es
  | _, _ => false
def isTup : Expr → Bool
  | .Tuple _ _ _ => true
  | _ => false
def idx : MG → List Nat
  | .n i => [i]
  | .t l => l
def ownOf (N : List Str) (g : MG) : List (Str × Nat) := (idx g).map fun i => (N.getD i "", i)
mutual
def okE (N : List Str) (sc : Scope) : ME → Expr → Bool
  | .v i, e => match e with | .Name x _ => slotOk N sc i x | _ => false
  | .kn, e => match e with | .Constant .none _ _ => true | _ => false
  | .kb b, e => match e with | .Constant (.bool c) _ _ => decide (b = c) | _ => false
  | .ki i, e => match e with | .Constant (.int j) _ _ => decide (i = j) | _ => false
  | .ks s, e => match e with | .Constant (.str x) _ _ => decide (s = x) | _ => false
  | .lst ms, e => match e with | .List es _ => okEs N sc ms es | _ => false
  | .tup ms, e => match e with | .Tuple es _ _ => okEs N sc ms es | _ => false
  | .dK0, e => match e with | .Dict [] [] _ => true | _ => false
  | .bin op a b, e => match e with | .BinOp x op' y _ => decide (op = op') && okE N sc a x && okE N sc b y | _ => false
  | .neg a, e => match e with | .UnaryOp .USub x _ => okE N sc a x | _ => false
  | .cmp op a b, e => match e with | .Compare x [op'] [y] _ => decide (op = op') && !(behindInMarks op' y) && okE N sc a x && okE N sc b y | _ => false
  | .chn op op2 a b c, e => match e with | .Compare x [o1, o2] [y, z] _ => decide (op = o1) && decide (op2 = o2) && !(lastMarks [o1, o2] [y, z]) && okE N sc a x && okE N sc b y && okE N sc c z | _ => false
  | .bop con ms, e => match e with
    | .BoolOp .And es _ => con && okEs N sc ms es
    | .BoolOp .Or es _ => !con && okEs N sc ms es
    | _ => false
  | .not_ a, e => match e with | .UnaryOp .Not x _ => okE N sc a x | _ => false
  | .ite c a b, e => match e with | .IfExp x y z _ => okE N sc c x && okE N sc a y && okE N sc b z | _ => false
  | .ix a i, e => match e with | .Subscript x y _ => okE N sc a x && okE N sc i y | _ => false
  | .sl a lo hi, e => match e with | .Subscript x (.Slice l h none _) _ => okE N sc a x && okO N sc lo l && okO N sc hi h | _ => false
  | .bi f ms, e => match e with | .Call (.Name g _) (x :: es) [] _ => decide (f = g) && glOk sc g && (biV f).isSome && okEs N sc ms (x :: es) | _ => false
  | .isi a T, e => match e with | .Call (.Name g _) [x, .Name T' _] [] _ => decide (g = "isinstance") && glOk sc g && decide (T = T') && glOk sc T' && (decide (T = "str") || decide (T = "bool") || decide (T = "int") || decide (T = "list") || decide (T = "tuple")) && okE N sc a x | _ => false
  | .mt o f ms, e => match e with | .Call (.Attribute x f' ap) (y :: es) [] cp => decide (f = f') && (decide (f = "join") || decide (f = "startswith") || decide (f = "count")) && (ap.endLine == cp.line) && decide (es.length < 20) && okE N sc o x && okEs N sc ms (y :: es) | _ => false
  | .call f ms, e => match e with | .Call (.Name g _) (x :: es) [] _ => decide (f = g) && glOk sc g && okEs N sc ms (x :: es) | _ => false
  | .lc g it c elt, e => match e with | .ListComp x [⟨tg, iter, ifs, 0⟩] scope _ => blkC N sc scope (ownOf N g) && okG N scope g tg && okI N sc it tg iter && okC N (relS scope sc) c ifs && okE N (relS scope sc) elt x | _ => false
  | .lr a b, e => match e with
    | .Call (.Name l _) [.Call (.Name r _) [x] [] _] [] _ => decide (l = "list") && glOk sc l && decide (r = "range") && glOk sc r && okO N sc a (some x) && okO N sc b none
    | .Call (.Name l _) [.Call (.Name r _) [x, y] [] _] [] _ => decide (l = "list") && glOk sc l && decide (r = "range") && glOk sc r && okO N sc a (some x) && okO N sc b (some y)
    | _ => false
  | .rep _ _ _, _ => false
  | .dgt i k d, e => match e with | .Call (.Attribute (.Name x _) m ap) [y, z] [] cp => slotOk N sc i x && decide (m = "get") && (ap.endLine == cp.line) && okE N sc k y && okE N sc d z | _ => false
  | .lix a b, e => match e with | .Call (.Attribute x m ap) [y] [] cp => decide (m = "index") && (ap.endLine == cp.line) && okE N sc a x && okE N sc b y | _ => false
  | .srk a f, e => match e with | .Call (.Name l _) [x] [⟨some y, .Name g _, _⟩] _ => decide (l = "sorted") && glOk sc l && decide (y = Str.ofString "key") && decide (f = g) && glOk sc g && okE N sc a x | _ => false
  | .rvl a, e => match e with | .Call (.Name l _) [.Call (.Name r _) [x] [] _] [] _ => decide (l = "list") && glOk sc l && decide (r = "reversed") && glOk sc r && okE N sc a x | _ => false
def okEs (N : List Str) (sc : Scope) : MEs → List Expr → Bool
  | .nil, es => match es with | [] => true | _ => false
  | .cons m ms, es => match es with | e :: r => okE N sc m e && okEs N sc ms r | _ => false
def okO (N : List Str) (sc : Scope) : MO → Option Expr → Bool
  | .no, o => match o with | none => true | _ => false
  | .so m, o => match o with | some e => okE N sc m e | _ => false
def okC (N : List Str) (sc : Scope) : MO → List Expr → Bool
  | .no, o => match o with | [] => true | _ => false
  | .so m, o => match o with | [e] => okE N sc m e | _ => false
def okI (N : List Str) (sc : Scope) : MI → Expr → Expr → Bool
  | .e a, _, e => okE N sc a e
  | .r1 a, _, e => match e with | .Call (.Name r _) [x] [] _ => decide (r = "range") && glOk sc r && okE N sc a x | _ => false
  | .r2 a b, _, e => match e with | .Call (.Name r _) [x, y] [] _ => decide (r = "range") && glOk sc r && okE N sc a x && okE N sc b y | _ => false
  | .r3 a b c, _, e => match e with | .Call (.Name r _) [x, y, z] [] _ => decide (r = "range") && glOk sc r && okE N sc a x && okE N sc b y && okE N sc c z | _ => false
  | .zip a b, tg, e => match e with | .Call (.Name r _) [x, y] [] _ => decide (r = "zip") && isTup tg && glOk sc r && okE N sc a x && okE N sc b y | _ => false
  | .zip3 a b c, tg, e => match e with | .Call (.Name r _) [x, y, z] [] _ => decide (r = "zip") && isTup tg && glOk sc r && okE N sc a x && okE N sc b y && okE N sc c z | _ => false
  | .enum a, tg, e => match e with | .Call (.Name r _) [x] [] _ => decide (r = "enumerate") && isTup tg && glOk sc r && okE N sc a x | _ => false
  | .rev a, _, e => match e with | .Call (.Name r _) [x] [] _ => decide (r = "reversed") && glOk sc r && okE N sc a x | _ => false
end
/-! ### shapes -/
theorem ok_star {N : List Str} {sc : Scope} {m : ME} {a : Expr} {p : Pos} : okE N sc m (.Starred a p) = false := by cases m <;> rfl
theorem ok_slice {N : List Str} {sc : Scope} {m : ME} {a b c : Option Expr} {p : Pos} : okE N sc m (.Slice a b c p) = false := by cases m <;> rfl
theorem ok_set {N : List Str} {sc : Scope} {m : ME} {a : List Expr} {k : Nat} {p : Pos} : okE N sc m (.Set a k p) = false := by cases m <;> rfl
theorem star_cons {N : List Str} {sc : Scope} {m : ME} {e : Expr} (h : okE N sc m e = true) (es : List Expr) (env : Env) : starEach (e :: es) env = (false, eval e env) :: starEach es env := by
  cases e with
  | Starred a p => rw [ok_star] at h; cases h
  | _ => rfl
theorem star_none {N : List Str} {sc : Scope} {env : Env} : ∀ {ms : MEs} {es : List Expr}, okEs N sc ms es = true → (starEach es env).any (·.1) = false
  | .nil, es, h => by
    cases es with
    | nil => rfl
    | cons e r => simp [okEs] at h
  | .cons m ms, es, h => by
    cases es with
    | nil => simp [okEs] at h
    | cons e r =>
      simp only [okEs, Bool.and_eq_true] at h
      rw [star_cons h.1, List.any_cons, star_none h.2]
      rfl
theorem back_any (pos : Pos) (l : List (Bool × Sem Value)) (h : l.any (·.1) = false) : (backTo pos l).any (·.1) = false := by
  unfold backTo
  rw [List.any_map]
  exact h
theorem back_all (pos : Pos) (l : List (Bool × Sem Value)) (h : l.any (·.1) = false) : (backTo pos l).all (fun x => !x.1) = true := by
  unfold backTo
  rw [List.all_map]
  rw [List.any_eq_false] at h
  rw [List.all_eq_true]
  intro x hx
  have := h x hx
  show (!x.1) = true
  simpa using this
theorem plain_ix {N : List Str} {sc : Scope} {m : ME} {e : Expr} (h : okE N sc m e = true) : PlainIx e := by
  intro o i
  cases e with
  | Slice a b c p => rw [ok_slice] at h; cases h
  | _ => rfl
theorem no_set {N : List Str} {sc : Scope} {m : ME} {e : Expr} {env : Env} (h : okE N sc m e = true) : ∀ x, foldedSetIterable e env x = pure x := by
  intro x
  cases e with
  | Set a k p => rw [ok_set] at h; cases h
  | _ => rfl

/-! ### from a reading to another -/
end En
namespace L2
open PySem PySem.Spec PyProof.Rows
section
variable {X : Cx}
theorem PE.imp {e : Expr} {t t' : TE} (h : PE X e t) (i : ∀ σ H Q, t' σ H Q → t σ H Q) : PE X e t' := ⟨fun pins s σ H Q I q => h.run pins s σ H Q I (i σ H Q q)⟩
theorem PT.imp {e : Expr} {t t' : TT} (h : PT X e t) (i : ∀ σ H Q, t' σ H Q → t σ H Q) : PT X e t' := ⟨fun pins s σ H Q I q => h.run pins s σ H Q I (i σ H Q q)⟩
theorem PW.imp {e : Expr} {t t' : TT} (h : PW X e t) (i : ∀ σ H Q, t' σ H Q → t σ H Q) : PW X e t' := ⟨fun w pins s σ H Q I q => h.run w pins s σ H Q I (i σ H Q q)⟩
theorem PA.imp {e : List Expr} {t t' : TA} (h : PA X e t) (i : ∀ σ H Q, t' σ H Q → t σ H Q) : PA X e t' := ⟨fun p pins s σ H Q I q => h.run p pins s σ H Q I (i σ H Q q)⟩
theorem PS.imp {st : Stmt} {t t' : TS} (h : PS X st t) (i : ∀ D σ H, t' D σ H → t D σ H) : PS X st t' := ⟨fun pins s σ H D I q => h.run pins s σ H D I (i D σ H q)⟩
theorem PSs.imp {st : List Stmt} {t t' : TS} (h : PSs X st t) (i : ∀ D σ H, t' D σ H → t D σ H) : PSs X st t' := ⟨fun pins s σ H D I q => h.run pins s σ H D I (i D σ H q)⟩
theorem PI.imp {tg e : Expr} {t t' : TI} (h : PI X tg e t) (i : ∀ σ H Q, t' σ H Q → t σ H Q) : PI X tg e t' := ⟨fun pins s σ H Q I q => h.run pins s σ H Q I (i σ H Q q)⟩
theorem PO.imp {e : Option Expr} {t t' : TO} (h : PO X e t) (i : ∀ σ H Q, t' σ H Q → t σ H Q) : PO X e t' := by
  cases h with
  | mk run => exact ⟨fun pins s σ H Q I q => run pins s σ H Q I (i σ H Q q)⟩
end
end L2
namespace En
open PySem PySem.Spec PyProof.Rows L2
theorem truth_bl {H0 : Hp} {M : AS} {Hs H : Hp} {v : V} {r : Rv} {b : Bool} (h : RvOk H0 M Hs H v r) (e : truth r = .ok b) : v = .bl b := by
  unfold truth at e
  split at e
  · cases e
    cases h
    rfl
  · cases e
section
variable {X : Cx} {Γ : FT} {E : XK} {k : Nat}
theorem pt_of {m : ME} {e : Expr} (h : PE X e (tE Γ E X.mg m)) (he : ∀ whole, isTrue e X.env whole = (do let v ← whole; standAt e.pos; holding [v] (truthy v))) : PT X e (tT Γ E X.mg m) :=
  PT.imp (pt_val h he) fun σ H Q ⟨H0, M0, M, env, ok, q⟩ => ⟨H0, M0, M, env, ok, (Rp.bind q).imp fun r e1 hr v H' s rv => by
    cases e2 : truth r with
    | bad => rw [e2] at hr; exact hr.elim
    | err x =>
      cases r with
      | fr m d => cases d <;> simp [truth] at e2
      | ow m d => simp [truth] at e2
      | bo m d => simp [truth] at e2
    | ok b =>
      rw [e2] at hr
      exact ⟨b, truth_bl rv e2, hr H' s⟩⟩
/-- a value from a test's answer -/
theorem boot_bi {f : Str} {u : Value} (h : biV f = some u) : bootBuiltins f = some u ∧ f ≠ "__name__" ∧ (f == ("__debug__" : Str)) = false ∧ f ∈ ([("len" : Str), "list", "tuple", "sum", "min", "max", "int", "any", "all", "sorted", "isinstance", "range", "zip", "enumerate", "reversed", "str", "bool", "set", "dict"] : List Str) := by
  unfold biV at h
  repeat' (split at h)
  all_goals first
    | (rename_i e; subst e; cases h; exact ⟨by decide +kernel, by decide, by decide, by decide⟩)
    | exact nomatch h
theorem biV_ty {f : Str} {u : Value} (h : biV f = some u) : (∃ n, u = .builtin n) ∨ ∃ n, u = .type n := by
  unfold biV at h
  repeat' (split at h)
  all_goals first
    | (cases h; first | exact .inl ⟨_, rfl⟩ | exact .inr ⟨_, rfl⟩)
    | exact nomatch h
theorem gl_of {x : Str} (h : glOk X.env.scope x = true) : Gl X x ∧ (x == ("__debug__" : Str)) = false := by
  unfold glOk at h
  simp only [Bool.and_eq_true, decide_eq_true_eq, Bool.not_eq_true'] at h
  exact h
theorem pe_v {i : Nat} {x : Str} {pos : Pos} (h : slotOk X.N X.env.scope i x = true) : PE X (.Name x pos) (tVar i) := by
  unfold slotOk at h
  simp only [Bool.and_eq_true, Bool.or_eq_true, decide_eq_true_eq, Bool.not_eq_true'] at h
  obtain ⟨⟨⟨h1, h2⟩, h3⟩, h4⟩ := h
  refine pe_var h1 ?_ h3 h4
  rcases h2 with h2 | h2
  · unfold kL at h2
    split at h2
    · rename_i e; exact .inl e
    · rename_i e; exact .inr (.inl e)
    · cases h2
  · exact .inr (.inr h2)
end
end En
set_option Elab.async false
set_option linter.all false
set_option maxRecDepth 100000
set_option maxHeartbeats 4000000
namespace En
open PySem PySem.Spec PyProof.Rows L2

def tyN : D → String
  | .none => "NoneType"
  | .bool _ => "bool"
  | .int _ => "int"
  | .str _ => "str"
  | .list _ => "list"
  | .tuple _ => "tuple"
  | .dict _ => "dict"
theorem ty_cn {K : PySem.W.Frag} {H : Hp} {L : AS} {x : V} {d : D} (h : Cn H L x d) : TyX K H x (.type (tyN d)) := by
  cases h with
  | non => exact .base .non
  | bl b => exact .base (.bl b)
  | int i => exact .base (.int i)
  | str z => exact .base (.str z)
  | lst r s =>
    rcases r with r | ⟨o, r⟩
    · exact .base (.lst r)
    · exact .base (.frz r)
  | tup r s =>
    rcases r with r | ⟨o, r⟩
    · exact .base (.tup r)
    · exact .fTuple r
  | dK r e s => exact .base (.dK r)
def tyS (T : Str) : String := if T = "str" then "str" else if T = "bool" then "bool" else if T = "int" then "int" else if T = "list" then "list" else "tuple"
theorem isi_kit {K : PySem.W.Frag} {d : D} {T : Str} {b : Bool} (h : semIsi d T = some b) : PySem.W.kitOne K (.type (tyN d)) (.type (tyS T)) = some b := by
  unfold semIsi at h
  split at h
  · rename_i e
    rw [show tyS T = "str" from by rw [e]; decide +kernel]
    cases d <;> cases h <;> first
      | exact kit_ty (show kitB "NoneType" "str" = some false from by decide +kernel)
      | exact kit_ty (show kitB "bool" "str" = some false from by decide +kernel)
      | exact kit_ty (show kitB "int" "str" = some false from by decide +kernel)
      | exact kit_ty (show kitB "str" "str" = some true from by decide +kernel)
      | exact kit_ty (show kitB "list" "str" = some false from by decide +kernel)
      | exact kit_ty (show kitB "tuple" "str" = some false from by decide +kernel)
      | exact kit_ty (show kitB "dict" "str" = some false from by decide +kernel)
  split at h
  · rename_i e
    rw [show tyS T = "bool" from by rw [e]; decide +kernel]
    cases d <;> cases h <;> first
      | exact kit_ty (show kitB "NoneType" "bool" = some false from by decide +kernel)
      | exact kit_ty (show kitB "bool" "bool" = some true from by decide +kernel)
      | exact kit_ty (show kitB "int" "bool" = some false from by decide +kernel)
      | exact kit_ty (show kitB "str" "bool" = some false from by decide +kernel)
      | exact kit_ty (show kitB "list" "bool" = some false from by decide +kernel)
      | exact kit_ty (show kitB "tuple" "bool" = some false from by decide +kernel)
      | exact kit_ty (show kitB "dict" "bool" = some false from by decide +kernel)
  split at h
  · rename_i e
    rw [show tyS T = "int" from by rw [e]; decide +kernel]
    cases d <;> cases h <;> first
      | exact kit_ty (show kitB "NoneType" "int" = some false from by decide +kernel)
      | exact kit_ty (show kitB "bool" "int" = some true from by decide +kernel)
      | exact kit_ty (show kitB "int" "int" = some true from by decide +kernel)
      | exact kit_ty (show kitB "str" "int" = some false from by decide +kernel)
      | exact kit_ty (show kitB "list" "int" = some false from by decide +kernel)
      | exact kit_ty (show kitB "tuple" "int" = some false from by decide +kernel)
      | exact kit_ty (show kitB "dict" "int" = some false from by decide +kernel)
  split at h
  · rename_i e
    rw [show tyS T = "list" from by rw [e]; decide +kernel]
    cases d <;> cases h <;> first
      | exact kit_ty (show kitB "NoneType" "list" = some false from by decide +kernel)
      | exact kit_ty (show kitB "bool" "list" = some false from by decide +kernel)
      | exact kit_ty (show kitB "int" "list" = some false from by decide +kernel)
      | exact kit_ty (show kitB "str" "list" = some false from by decide +kernel)
      | exact kit_ty (show kitB "list" "list" = some true from by decide +kernel)
      | exact kit_ty (show kitB "tuple" "list" = some false from by decide +kernel)
      | exact kit_ty (show kitB "dict" "list" = some false from by decide +kernel)
  split at h
  · rename_i e
    rw [show tyS T = "tuple" from by rw [e]; decide +kernel]
    cases d <;> cases h <;> first
      | exact kit_ty (show kitB "NoneType" "tuple" = some false from by decide +kernel)
      | exact kit_ty (show kitB "bool" "tuple" = some false from by decide +kernel)
      | exact kit_ty (show kitB "int" "tuple" = some false from by decide +kernel)
      | exact kit_ty (show kitB "str" "tuple" = some false from by decide +kernel)
      | exact kit_ty (show kitB "list" "tuple" = some false from by decide +kernel)
      | exact kit_ty (show kitB "tuple" "tuple" = some true from by decide +kernel)
      | exact kit_ty (show kitB "dict" "tuple" = some false from by decide +kernel)
  · exact nomatch h
theorem boot_ty {T : Str} (h : (decide (T = "str") || decide (T = "bool") || decide (T = "int") || decide (T = "list") || decide (T = "tuple")) = true) :
    bootBuiltins T = some (.type (tyS T)) ∧ T ≠ "__name__" ∧ (T == ("__debug__" : Str)) = false ∧ T ∈ ([("len" : Str), "list", "tuple", "sum", "min", "max", "int", "any", "all", "sorted", "isinstance", "range", "zip", "enumerate", "reversed", "str", "bool", "set", "dict"] : List Str) := by
  simp only [Bool.or_eq_true, decide_eq_true_eq] at h
  rcases h with (((h | h) | h) | h) | h <;> subst h <;> exact ⟨by decide +kernel, by decide, by decide, by decide⟩
theorem starts_eq (z y : Str) : Txt.startswith z y = (z.cps.toList.take y.length == y.cps.toList) := by
  unfold Txt.startswith
  rw [PySem.StrLaws.subAt_eq, List.drop_zero, Nat.zero_add]
  by_cases h : y.length ≤ z.length
  · rw [decide_eq_true h, Bool.true_and]
  · rw [decide_eq_false h, Bool.false_and]
    symm
    rw [beq_eq_false_iff_ne]
    intro e
    have := congrArg List.length e
    rw [List.length_take] at this
    have h1 : z.cps.toList.length = z.length := by simp [Str.length]
    have h2 : y.cps.toList.length = y.length := by simp [Str.length]
    omega

section
variable {X : Cx} {Γ : FT} {E : XK} {k : Nat}
theorem op_rp {α : Type} {H : Hp} {r : R α} {k : α → Prop} {mg : Str → Option Value} : Rp E mg H r k → Rp E mg H r k := id
/-- a chain of two readings -/
theorem mt_ok_join : MtR X "str.join" (fun x xs H Q => ∃ L d ds nw z, Cn H L x d ∧ Cns H L xs ds ∧ m_join d ds = some (nw, z) ∧ ∀ v, Dt H Any v z → nw = false → Q v H) := by
  intro pins s σ H x xs v us Q I rx rs h
  obtain ⟨L, d, ds, nw, z, cx, cs, hf, q⟩ := h
  cases cx <;> try (simp only [m_join, reduceCtorEq] at hf)
  cases cs with
  | nil => simp [m_join] at hf
  | cons c cs =>
    cases cs with
    | cons _ _ => cases c <;> simp [m_join] at hf
    | nil =>
      cases c <;> simp only [m_join, reduceCtorEq] at hf
      rename_i r s1
      rename_i zz a ys l
      cases e : allO isStr l with
      | none => rw [e] at hf; exact nomatch hf
      | some ss =>
        rw [e] at hf
        simp only [Option.bind_some] at hf
        split at hf
        · rename_i hz
          cases hf
          have := strs_of s1 e
          subst this
          refine mt_join pins s σ H _ _ _ us Q I rx rs ⟨zz, a, ss, rfl, rfl, .inl (.inl r), ?_, ?_⟩
          · have := fits_le hz
            rw [sizeLine_eq] at this
            exact this
          · have e2 : (⟨(TL.joinL zz.cps.toList (ss.map TL.tl)).toArray⟩ : Str) = Txt.join zz ss := by
              rw [TL.join_eq]
              apply TL.ext_tl
              rw [TL.tl_join]
            rw [← e2]
            exact q _ (.str _) rfl
        · exact nomatch hf
theorem mt_ok_starts : MtR X "str.startswith" (fun x xs H Q => ∃ L d ds nw z, Cn H L x d ∧ Cns H L xs ds ∧ m_startswith d ds = some (nw, z) ∧ ∀ v, Dt H Any v z → nw = false → Q v H) := by
  intro pins s σ H x xs v us Q I rx rs h
  obtain ⟨L, d, ds, nw, z, cx, cs, hf, q⟩ := h
  cases cx <;> try (simp only [m_startswith, reduceCtorEq] at hf)
  cases cs with
  | nil => simp [m_startswith] at hf
  | cons c cs =>
    cases cs with
    | cons _ _ => cases c <;> simp [m_startswith] at hf
    | nil =>
      cases c <;> simp only [m_startswith, reduceCtorEq] at hf
      cases hf
      refine mt_startswith pins s σ H _ _ _ us Q I rx rs ⟨_, _, rfl, rfl, ?_⟩
      rw [starts_eq]
      exact q _ (.bl _) rfl
theorem mt_ok_count : MtR X "str.count" (fun x xs H Q => ∃ L d ds nw z, Cn H L x d ∧ Cns H L xs ds ∧ m_count d ds = some (nw, z) ∧ ∀ v, Dt H Any v z → nw = false → Q v H) := by
  intro pins s σ H x xs v us Q I rx rs h
  obtain ⟨L, d, ds, nw, z, cx, cs, hf, q⟩ := h
  cases cx <;> try (simp only [m_count, reduceCtorEq] at hf)
  cases cs with
  | nil => simp [m_count] at hf
  | cons c cs =>
    cases cs with
    | cons _ _ => cases c <;> simp [m_count] at hf
    | nil =>
      cases c <;> simp only [m_count, reduceCtorEq] at hf
      cases hf
      exact mt_count pins s σ H _ _ _ us Q I rx rs ⟨_, _, rfl, rfl, q _ (.int _) rfl⟩
theorem sc_count {d : D} {ds : List D} {nw : Bool} {z : D} (h : m_count d ds = some (nw, z)) : nw = false ∧ sc z = true := by
  unfold m_count at h
  split at h
  · cases h; exact ⟨rfl, rfl⟩
  · exact nomatch h
theorem sc_join {d : D} {ds : List D} {nw : Bool} {z : D} (h : m_join d ds = some (nw, z)) : nw = false ∧ sc z = true := by
  unfold m_join at h
  split at h
  · rename_i zz l
    cases e : allO isStr l with
    | none => rw [e] at h; exact nomatch h
    | some ss =>
      rw [e] at h
      simp only [Option.bind_some] at h
      split at h
      · cases h; exact ⟨rfl, rfl⟩
      · exact nomatch h
  · exact nomatch h
theorem sc_starts {d : D} {ds : List D} {nw : Bool} {z : D} (h : m_startswith d ds = some (nw, z)) : nw = false ∧ sc z = true := by
  unfold m_startswith at h
  split at h
  · cases h; exact ⟨rfl, rfl⟩
  · exact nomatch h
end
/-! ### the call -/
theorem RvOk.ans {H0 : Hp} {M0 : AS} {Hs H1 H' : Hp} {M Mc : AS} {σ : L2.St} {env : List Sl} {v : V} {r r' : Rv} {lent : Bool} (ok : EnvOk H0 M0 H1 M σ env) (s0 : Same Hs H1) (hM : lent = false → Mc = M) (h : RvOk H1 Mc H1 H' v r)
    (e : En.ans lent r = .ok r') : RvOk H0 M Hs H' v r' := by
  have low : ∀ a, Lm H1 Mc false a → Lm H0 M false a := fun a q => ⟨(ok.fresh (q.2 rfl)).1, fun _ => (ok.fresh (q.2 rfl)).2⟩
  have mid : ∀ {m : Bool}, (lent && m) = false → ∀ a, Lm H1 Mc m a → Lm H0 M m a := fun {m} hc a q => by
    cases m with
    | false => exact low a q
    | true =>
      have : lent = false := by simpa using hc
      rw [hM this] at q
      exact ⟨q.1, fun z => nomatch z⟩
  cases r with
  | fr m d =>
    simp only [En.ans] at e
    split at e
    · cases e
    · rename_i hc
      cases e
      have h : Dt H' (Lm H1 Mc m) v d := h
      show Dt H' (Lm H0 M (m && !imm d)) v d
      cases q : imm d with
      | true => exact Dt.imm d v q h
      | false =>
        rw [q] at hc
        have hc' : (lent && m) = false := by simpa using hc
        have := h.wk (mid hc')
        simpa using this
  | ow m d =>
    obtain ⟨a, rfl, h1, h2, h3, t⟩ := h
    have fin : ∀ {m' : Bool} {d' : D}, Ob H' (fun b => Lm H0 M m' b ∧ b ≠ a) a d' → RvOk H0 M Hs H' (.ref a) (.ow m' d') := fun t' => ⟨a, rfl, s0.free h1, (ok.fresh h1).1, (ok.fresh h1).2, t'⟩
    cases d with
    | list ds =>
      simp only [En.ans] at e
      split at e
      · cases e
      · rename_i hc
        cases e
        cases t with
        | lst q s =>
          refine fin (.lst q ?_)
          cases qi : imms ds with
          | true => exact Dts.imm ds _ qi s
          | false =>
            rw [qi] at hc
            have hc' : (lent && m) = false := by simpa using hc
            have := s.wk (L' := fun b => Lm H0 M m b ∧ b ≠ a) fun b q => ⟨mid hc' b q.1, q.2⟩
            simpa using this
    | _ =>
      simp only [En.ans] at e
      split at e
      · cases e
      · rename_i hc
        cases e
        exact fin (t.wk fun b q => ⟨mid (by simpa using hc) b q.1, q.2⟩)
  | bo m d => cases e
theorem args_ok {H0 : Hp} {M0 : AS} {Hs H1 : Hp} {M : AS} {σ : L2.St} {env : List Sl} {vs : List V} {rs : List Rv} (ok : EnvOk H0 M0 H1 M σ env) (h : RvOks H0 M Hs H1 vs rs) :
    ∃ Mc : AS, (∀ a, Mc a → M a) ∧ (rs.any isBo = false → Mc = M) ∧ Dts H1 (fun a => ¬ Mc a) vs (rs.map Rv.d) := by
  by_cases hb : rs.any isBo = false
  · refine ⟨M, fun _ q => q, fun _ => rfl, ?_⟩
    induction h with
    | nil => exact .nil
    | @cons v vs r rs h1 h2 ih =>
      rw [List.any_cons, Bool.or_eq_false_iff] at hb
      refine .cons ?_ (ih hb.2)
      cases r with
      | fr m d => exact Dt.wk (fun a q => q.1) h1
      | ow m d =>
        obtain ⟨a, rfl, _, h2, _, t⟩ := h1
        exact (t.wk (L' := fun a => ¬ M a) fun a q => q.1.1).dt h2
      | bo m d => simp [isBo] at hb
  · refine ⟨fun a => M a ∧ V.ref a ∉ vs, fun _ q => q.1, fun q => absurd q hb, ?_⟩
    have key : ∀ {ws : List V} {qs : List Rv}, RvOks H0 M Hs H1 ws qs → (∀ w ∈ ws, w ∈ vs) → Dts H1 (fun a => ¬ (M a ∧ V.ref a ∉ vs)) ws (qs.map Rv.d) := by
      intro ws qs hq
      induction hq with
      | nil => intro _; exact .nil
      | @cons v ws r qs h1 h2 ih =>
        intro hw
        refine .cons ?_ (ih fun w hm => hw w (List.mem_cons_of_mem _ hm))
        have hv : v ∈ vs := hw v List.mem_cons_self
        cases r with
        | fr m d => exact Dt.wk (fun a q z => q.1 z.1) h1
        | ow m d =>
          obtain ⟨a, rfl, _, h2, _, t⟩ := h1
          exact (t.wk (L' := fun a => ¬ (M a ∧ V.ref a ∉ vs)) fun a q z => q.1.1 z.1).dt fun z => h2 z.1
        | bo m d =>
          have h1 : Cn H1 (Lm H0 M m) v d := h1
          have c2 := h1.wk (L' := fun a => ¬ (M a ∧ V.ref a ∉ vs)) fun a q z => q.1 z.1
          show Dt _ _ v d
          cases c2 with
          | non => exact .non
          | bl b => exact .bl b
          | int i => exact .int i
          | str z => exact .str z
          | lst r s => exact .lst (fun z => z.2 hv) r s
          | tup r s => exact .tup r s
          | dK r e s => exact .dK (fun z => z.2 hv) r e s
    exact key h fun _ q => q
end En
set_option Elab.async false
set_option linter.all false
set_option maxRecDepth 100000
set_option maxHeartbeats 4000000
namespace En
open PySem PySem.Spec PyProof.Rows L2

/-! ### the block of a comprehension -/
theorem wipe_get {σ : L2.St} : ∀ {vs : List Nat} {i : Nat}, i ∉ vs → (wipe σ vs)[i]? = σ[i]?
  | [], _, _ => rfl
  | v :: vs, i, h => by
    simp only [List.mem_cons, not_or] at h
    unfold wipe
    rw [List.getElem?_set_ne (Ne.symm h.1)]
    exact wipe_get h.2
theorem wipe_in {σ : L2.St} : ∀ {vs : List Nat} {i : Nat}, i ∈ vs → i < σ.length → (wipe σ vs)[i]? = some none
  | v :: vs, i, h, hl => by
    unfold wipe
    by_cases e : v = i
    · subst e
      rw [List.getElem?_set_self (by rw [wipe_length]; exact hl)]
    · rw [List.getElem?_set_ne e]
      exact wipe_in (by simpa [Ne.symm e] using h) hl
theorem wipe_ext {σ τ : L2.St} {vs : List Nat} (hl : τ.length = σ.length) (h : ∀ i, i ∉ vs → τ[i]? = σ[i]?) : wipe τ vs = wipe σ vs := by
  apply List.ext_getElem?
  intro i
  by_cases hi : i ∈ vs
  · by_cases hlt : i < σ.length
    · rw [wipe_in hi hlt, wipe_in hi (by rw [hl]; exact hlt)]
    · rw [List.getElem?_eq_none (by rw [wipe_length]; omega), List.getElem?_eq_none (by rw [wipe_length]; omega)]
  · rw [wipe_get hi, wipe_get hi, h i hi]
/-- slots are changed to data -/
theorem EnvOk.ch {H0 : Hp} {M0 : AS} {H : Hp} {M : AS} {σ σ' : L2.St} {env env' : List Sl} (ok : EnvOk H0 M0 H M σ env) (l1 : σ'.length = env'.length)
    (h : ∀ (i : Nat) (s : Sl), env'[i]? = some s → (env[i]? = some s ∧ σ'[i]? = σ[i]?) ∨ ((∀ m d, s ≠ .ow m d) ∧ SlOk H0 H M (σ'[i]?) s)) : EnvOk H0 M0 H M σ' env' := by
  refine ⟨l1, ok.same, ok.m0, ok.dom, fun i s e => ?_, fun i j m d m' d' a e1 e2 s1 s2 => ?_⟩
  · rcases h i s e with ⟨q, r⟩ | ⟨_, q⟩
    · rw [r]; exact ok.sl i s q
    · exact q
  · rcases h i _ e1 with ⟨q1, r1⟩ | ⟨q1, _⟩
    · rcases h j _ e2 with ⟨q2, r2⟩ | ⟨q2, _⟩
      · exact ok.dis i j m d m' d' a q1 q2 (r1 ▸ s1) (r2 ▸ s2)
      · exact absurd rfl (q2 _ _)
    · exact absurd rfl (q1 _ _)
theorem EnvOk.set_fr {H0 : Hp} {M0 : AS} {H : Hp} {M : AS} {σ : L2.St} {env : List Sl} (ok : EnvOk H0 M0 H M σ env) {i : Nat} {v : V} {m : Bool} {d : D} (t : Dt H (Lm H0 M m) v d) (hi : i < env.length) : EnvOk H0 M0 H M (σ.set i (some v)) (env.set i (.fr m d)) := by
  refine ok.ch (by rw [List.length_set, List.length_set]; exact ok.len) fun j s e => ?_
  by_cases hj : i = j
  · subst hj
    rw [List.getElem?_set_self hi] at e
    cases e
    refine .inr ⟨fun _ _ q => (nomatch q), v, ?_, t⟩
    rw [List.getElem?_set_self (by rw [ok.len]; exact hi)]
  · rw [List.getElem?_set_ne hj] at e
    exact .inl ⟨e, List.getElem?_set_ne hj⟩
theorem EnvOk.wipe {H0 : Hp} {M0 : AS} {H : Hp} {M : AS} {σ : L2.St} {env : List Sl} (ok : EnvOk H0 M0 H M σ env) (vs : List Nat) : EnvOk H0 M0 H M (L2.wipe σ vs) (vs.foldr (fun i e => e.set i .no) env) := by
  induction vs with
  | nil => exact ok
  | cons v vs ih =>
    show EnvOk H0 M0 H M ((L2.wipe σ vs).set v none) ((vs.foldr (fun i e => e.set i .no) env).set v .no)
    refine ih.ch (by rw [List.length_set, List.length_set]; exact ih.len) fun j s e => ?_
    by_cases hj : v = j
    · subst hj
      have hv := (List.getElem?_eq_some_iff.mp e).1
      rw [List.length_set] at hv
      rw [List.getElem?_set_self hv] at e
      cases e
      exact .inr ⟨fun _ _ q => (nomatch q), trivial⟩
    · rw [List.getElem?_set_ne hj] at e
      exact .inl ⟨e, List.getElem?_set_ne hj⟩
/-- an unseen object is kept from the others -/
theorem EnvOk.add {H0 : Hp} {M0 : AS} {H H1 : Hp} {M : AS} {σ : L2.St} {env : List Sl} (ok : EnvOk H0 M0 H M σ env) {p : Addr} (hp : H p = none) (s : Same H H1) (hq : ∃ o, H1 p = some o ∧ Mut (some o)) : EnvOk H0 M0 H1 (fun a => M a ∨ a = p) σ env := by
  have key : ∀ {m : Bool}, ∀ a u, Lm H0 M m a → H a = some u → H1 a = some u ∧ Lm H0 (fun a => M a ∨ a = p) m a := fun {m} a u l e => ⟨s _ _ e, fun z => z.elim l.1 fun q => (by rw [q, hp] at e; cases e), l.2⟩
  refine ⟨ok.len, ok.same.trans s, fun a q => ⟨.inl (ok.m0 a q).1, (ok.m0 a q).2⟩, fun a q => ?_, fun i t e => ?_, ok.dis⟩
  · rcases q with q | q
    · obtain ⟨o, e, t⟩ := ok.dom a q
      exact ⟨o, s _ _ e, t⟩
    · rw [q]; exact hq
  · have h := ok.sl i t e
    cases t with
    | no => trivial
    | fr m d =>
      obtain ⟨v, q, t⟩ := h
      exact ⟨v, q, Dt.go key (fun _ _ r => sm_rd s r) _ _ t⟩
    | ow m d =>
      obtain ⟨a, q, x, y, t⟩ := h
      obtain ⟨o, q2, _⟩ := t.there
      exact ⟨a, q, .inl x, y, t.go ((s _ _ q2).trans q2.symm) key fun _ _ r => sm_rd s r⟩
    | pt v => exact h

/-! ### targets -/
def gSet (l : List Nat) : TGs := fun vs σ H Q => vs.length = l.length ∧ Q ((l.zip vs).foldl (fun s p => s.set p.1 (some p.2)) σ) H
section
variable {X : Cx}
/-- names of the def itself, or of the block -/
def FnIn (X : Cx) (sc : Scope) : Prop := ∀ x, (sc.names.lookup x = some .local → X.env.scope.names.lookup x = some .local) ∧ (sc.names.lookup x = some .cell → X.env.scope.names.lookup x = some .cell ∧ X.fn x = true)
theorem pg_ok {sc : Scope} {i : Nat} {e : Expr} (nd : X.N.Nodup) (f : FnIn X sc) (h : tgOk X.N sc i e = true) : PG X e (gName i) := by
  cases e with
  | Name x pos =>
    simp only [tgOk, Bool.and_eq_true, decide_eq_true_eq] at h
    obtain ⟨h1, h2⟩ := h
    unfold kL at h2
    split at h2
    · rename_i q
      exact pg_name nd h1 (.inl ((f x).1 q)) (.inr ((f x).1 q))
    · rename_i q
      exact pg_name nd h1 (.inr ((f x).2 q).1) (.inl ((f x).2 q).2)
    · cases h2
  | _ => cases h
theorem tgs_each {sc : Scope} {N : List Str} {env : Env} : ∀ {l : List Nat} {es : List Expr}, tgsOk N sc l es = true → (assignEach es env) = es.map (fun e => (false, assign e env)) ∧ es.length = l.length
  | [], [], _ => ⟨rfl, rfl⟩
  | i :: l, e :: es, h => by
    simp only [tgsOk, Bool.and_eq_true] at h
    obtain ⟨a, b⟩ := tgs_each (env := env) h.2
    cases e with
    | Name x pos => exact ⟨by show (false, assign (.Name x pos) env) :: assignEach es env = _; rw [a]; rfl, by rw [List.length_cons, List.length_cons, b]⟩
    | _ => simp [tgOk] at h
  | [], _ :: _, h => by simp [tgsOk] at h
  | _ :: _, [], h => by simp [tgsOk] at h
theorem pgs_ok {sc : Scope} (nd : X.N.Nodup) (f : FnIn X sc) : ∀ {l : List Nat} {es : List Expr}, tgsOk X.N sc l es = true → PGs X es (gSet l)
  | [], [], _ => ⟨fun pins s σ H vs us Q I r h => by
      obtain ⟨h1, h2⟩ := h
      cases vs with
      | nil => exact pgs_nil.run pins s σ H [] us Q I r ⟨rfl, h2⟩
      | cons _ _ => simp at h1⟩
  | i :: l, e :: es, h => by
    have ha := (tgs_each (env := X.env) h).1
    simp only [tgsOk, Bool.and_eq_true] at h
    have hb := (tgs_each (env := X.env) h.2).1
    have := pgs_cons (pg_ok nd f h.1) (pgs_ok nd f h.2) (by rw [ha, hb]; rfl)
    exact ⟨fun pins s σ H vs us Q I r hw => by
      obtain ⟨h1, h2⟩ := hw
      cases vs with
      | nil => simp at h1
      | cons v vs =>
        exact this.run pins s σ H (v :: vs) us Q I r ⟨v, vs, rfl, by simpa using h1, h2⟩⟩
  | [], _ :: _, h => by simp [tgsOk] at h
  | _ :: _, [], h => by simp [tgsOk] at h
/-- (a, b, ..) = a tuple or a list of that length -/
def gTL (K : PySem.W.Frag) (n : Nat) (t : TGs) : TG := fun v σ H Q => ∃ a xs, v = .ref a ∧ (SqT K H a xs ∨ SqL K H a xs) ∧ xs.length = n ∧ t xs σ H Q
theorem pg_tl {X : Cx} {pos : Pos} {es : List Expr} {k : Nat} {t : TGs} {n : Nat} (hc : X.calm = true) (h : PGs X es t)
    (hn : (assignEach es X.env).length = n) (hst : (assignEach es X.env).findIdx? (·.1) = none) : PG X (.Tuple es k pos) (gTL X.K n t) := by
  refine ⟨fun pins s σ H v u Q I r hw => ?_⟩
  obtain ⟨a, xs, e1, hq, hl, hw⟩ := hw
  rcases hq with hq | hq
  · exact (pg_tup (k := k) (pos := pos) hc h hn hst).run pins s σ H v u Q I r ⟨a, xs, e1, hq, hl, hw⟩
  · exact (pg_lst (k := k) (pos := pos) hc h hn hst).run pins s σ H v u Q I r ⟨a, xs, e1, hq, hl, hw⟩
/-- a target's reading -/
def gOf (X : Cx) : MG → TG
  | .n i => gName i
  | .t l => gTL X.K l.length (gSet l)
theorem g_ok {sc : Scope} {g : MG} {e : Expr} (nd : X.N.Nodup) (hc : X.calm = true) (f : FnIn X sc) (h : okG X.N sc g e = true) : PG X e (gOf X g) := by
  cases g with
  | n i => exact pg_ok nd f h
  | t l =>
    cases e with
    | Tuple es kk pos =>
      have h : tgsOk X.N sc l es = true := h
      have ha := tgs_each (env := X.env) h
      refine pg_tl hc (pgs_ok nd f h) (by rw [ha.1, List.length_map, ha.2]) ?_
      rw [ha.1]
      rw [List.findIdx?_eq_none_iff]
      intro x hx
      obtain ⟨e, _, rfl⟩ := List.mem_map.mp hx
      rfl
    | _ => cases h
end
theorem sets_get {vs : List V} {σ : L2.St} : ∀ {l : List Nat} {i : Nat}, i ∉ l → ((l.zip vs).foldl (fun s p => s.set p.1 (some p.2)) σ)[i]? = σ[i]? := by
  intro l
  induction l generalizing vs σ with
  | nil => intro i _; rfl
  | cons a l ih =>
    intro i h
    simp only [List.mem_cons, not_or] at h
    cases vs with
    | nil => rfl
    | cons v vs =>
      rw [List.zip_cons_cons, List.foldl_cons, ih h.2]
      exact List.getElem?_set_ne (Ne.symm h.1)
theorem sets_len {vs : List V} {σ : L2.St} : ∀ {l : List Nat}, ((l.zip vs).foldl (fun s p => s.set p.1 (some p.2)) σ).length = σ.length := by
  intro l
  induction l generalizing vs σ with
  | nil => rfl
  | cons a l ih =>
    cases vs with
    | nil => rfl
    | cons v vs => rw [List.zip_cons_cons, List.foldl_cons, ih, List.length_set]
theorem setAll_ok {H0 : Hp} {M0 : AS} {H : Hp} {M : AS} {m : Bool} : ∀ {l : List Nat} {ds : List D} {vs : List V} {σ : L2.St} {env env' : List Sl}, EnvOk H0 M0 H M σ env → Dts H (Lm H0 M m) vs ds → setAll m l ds env = .ok env' →
    vs.length = l.length ∧ EnvOk H0 M0 H M ((l.zip vs).foldl (fun s p => s.set p.1 (some p.2)) σ) env'
  | [], [], vs, σ, env, env', ok, t, e => by
    cases t
    cases e
    exact ⟨rfl, ok⟩
  | i :: l, d :: ds, vs, σ, env, env', ok, t, e => by
    obtain ⟨v, ws, rfl, t1, t2⟩ := t.cons_inv'
    unfold setAll at e
    split at e
    · rename_i hi
      obtain ⟨a, b⟩ := setAll_ok (ok.set_fr t1 hi) t2 e
      exact ⟨by rw [List.length_cons, List.length_cons, a], b⟩
    · cases e
  | [], _ :: _, _, _, _, _, _, _, e => by cases e
  | _ :: _, [], _, _, _, _, _, _, e => by cases e
/-- a target bound -/
theorem bind_ok {X : Cx} {H0 : Hp} {M0 : AS} {H : Hp} {M : AS} {m : Bool} {g : MG} {d : D} {x : V} {σ : L2.St} {env env' : List Sl} {Q : L2.St → Hp → Prop} (ok : EnvOk H0 M0 H M σ env) (t : Dt H (Lm H0 M m) x d) (e : bindG g m d env = .ok env')
    (q : ∀ σ', EnvOk H0 M0 H M σ' env' → (∀ i, i ∉ idx g → σ'[i]? = σ[i]?) → σ'.length = σ.length → Q σ' H) : gOf X g x σ H Q := by
  cases g with
  | n i =>
    simp only [bindG] at e
    split at e
    · rename_i hi
      cases e
      refine q _ (ok.set_fr t hi) (fun j hj => List.getElem?_set_ne fun z => hj (by simp [idx, z])) (by rw [List.length_set])
    · cases e
  | t l =>
    cases d <;> simp only [bindG, reduceCtorEq] at e
    rename_i ds
    cases t with
    | @tup a xs _ r s =>
      obtain ⟨h1, h2⟩ := setAll_ok ok s e
      exact ⟨a, xs, rfl, .inl (.inl r), h1, h1, q _ h2 (fun j hj => sets_get hj) sets_len⟩
theorem bind_wipe {m : Bool} {g : MG} {d : D} {env env' : List Sl} (e : bindG g m d env = .ok env') : bindG g m d ((idx g).foldr (fun i e => e.set i .no) env) = .ok env' := by
  cases g with
  | n i =>
    simp only [bindG, idx, List.foldr_cons, List.foldr_nil, List.length_set] at e ⊢
    split at e
    · rename_i hi
      cases e
      rw [if_pos hi, List.set_set]
    · cases e
  | t l =>
    cases d <;> simp only [bindG, idx, reduceCtorEq] at e ⊢
    rename_i ds
    have key : ∀ (l : List Nat) (ds : List D) (E1 E2 env' : List Sl), E1.length = E2.length → (∀ i, i ∉ l → E1[i]? = E2[i]?) → setAll m l ds E1 = .ok env' → setAll m l ds E2 = .ok env' := by
      intro l
      induction l with
      | nil =>
        intro ds E1 E2 env' hl h e
        cases ds with
        | nil =>
          cases e
          have : E1 = E2 := List.ext_getElem? fun i => h i (by simp)
          rw [this]; rfl
        | cons _ _ => cases e
      | cons i l ih =>
        intro ds E1 E2 env' hl h e
        cases ds with
        | nil => cases e
        | cons d ds =>
          unfold setAll at e ⊢
          split at e
          · rename_i hi
            rw [if_pos (by rw [← hl]; exact hi)]
            refine ih ds _ _ env' (by rw [List.length_set, List.length_set]; exact hl) (fun j hj => ?_) e
            by_cases hij : i = j
            · subst hij
              rw [List.getElem?_set_self hi, List.getElem?_set_self (by rw [← hl]; exact hi)]
            · rw [List.getElem?_set_ne hij, List.getElem?_set_ne hij]
              exact h j (by simp [Ne.symm hij, hj])
          · cases e
    have len : ∀ (l : List Nat), (l.foldr (fun i e => e.set i Sl.no) env).length = env.length := by
      intro l
      induction l with
      | nil => rfl
      | cons a l ih => rw [List.foldr_cons, List.length_set, ih]
    have get : ∀ (l : List Nat) (i : Nat), i ∉ l → (l.foldr (fun i e => e.set i Sl.no) env)[i]? = env[i]? := by
      intro l
      induction l with
      | nil => intro i _; rfl
      | cons a l ih =>
        intro i h
        simp only [List.mem_cons, not_or] at h
        rw [List.foldr_cons, List.getElem?_set_ne (Ne.symm h.1)]
        exact ih i h.2
    exact key l ds env _ env' (len l).symm (fun i hi => (get l i hi).symm) e
end En
set_option Elab.async false
set_option linter.all false
set_option maxRecDepth 100000
set_option maxHeartbeats 8000000
namespace En
open PySem PySem.Spec PyProof.Rows L2

theorem fnIn_blk {X : Cx} {s : Shared} {H : Hp} {scope : Scope} {cl : List (Str × Addr)} {C : Addr} {fp : List Addr} : FnIn (X.blk s H scope (compEnvC scope cl C X.env) fp) scope := fun x =>
  ⟨fun h => lookup_relS_keep (by decide) h, fun h => ⟨lookup_relS_keep (by decide) h, by show (scope.names.lookup x == some .cell) = true; rw [h]; rfl⟩⟩
theorem ok_blk {X : Cx} {Γ : FT} {E : XK} {k : Nat} (ok : Ok X Γ E k) {s : Shared} {H : Hp} {scope : Scope} {cl : List (Str × Addr)} {C : Addr} {fp : List Addr} : Ok (X.blk s H scope (compEnvC scope cl C X.env) fp) Γ (fun _ _ _ => False) k :=
  ⟨ok.calm, ok.nd, ok.hu, ok.room, takes0, ok.blt, ok.fns⟩
section
variable (Γ : FT) (E : XK) (mg : Str → Option Value)
def tBv (con : Bool) (ms : MEs) : TE := fun σ H Q => ∃ H0 M0 M env, EnvOk H0 M0 H M σ env ∧ Rp E mg H (evB Γ env con ms) fun b => ∀ H', Same H H' → Q (.bl b) H'
def tBt (con : Bool) (ms : MEs) : TT := fun σ H Q => ∃ H0 M0 M env, EnvOk H0 M0 H M σ env ∧ Rp E mg H (evB Γ env con ms) fun b => ∀ H', Same H H' → Q b H'
def tI (it : MI) : TI := fun σ H R => ∃ H0 M0 M env, EnvOk H0 M0 H M σ env ∧ Rp E mg H (evI Γ env it) fun p => ∀ J H', Same H H' → Wk H' (Lm H0 M p.1) J p.2 → R J H'
end
def bOp (con : Bool) : BoolOp := if con then .And else .Or
theorem stos_ne : ∀ (rs : List Rv) (x : Str), stos rs ≠ .err x
  | [], _ => by simp [stos]
  | r :: rs, x => by
    intro z
    unfold stos at z
    cases r with
    | bo m d => simp [sto, R.bind] at z
    | fr m d =>
      simp only [sto, R.bind] at z
      cases hz : stos rs with
      | bad => rw [hz] at z; cases z
      | err y => exact stos_ne rs y hz
      | ok y => rw [hz] at z; cases z
    | ow m d =>
      simp only [sto, R.bind] at z
      cases hz : stos rs with
      | bad => rw [hz] at z; cases z
      | err y => exact stos_ne rs y hz
      | ok y => rw [hz] at z; cases z
theorem ans_ne (l : Bool) (r : Rv) (x : Str) : ans l r ≠ .err x := by
  cases r with
  | fr m d => simp only [ans]; split <;> simp
  | ow m d => cases d <;> simp only [ans] <;> split <;> simp
  | bo m d => simp [ans]
theorem rg_dts {H : Hp} {L : AS} (a b : Int) (n : Nat) (h : (b - a).toNat = n) : Dts H L (rgV a b) (rngD a n) := by
  unfold rgV rngD
  rw [h]
  generalize List.range n = l
  induction l with
  | nil => exact .nil
  | cons x l ih => exact .cons (.int _) ih
theorem no_setI {N : List Str} {sc : Scope} {it : MI} {tg e : Expr} {env : Env} (h : okI N sc it tg e = true) : ∀ x, foldedSetIterable e env x = pure x := by
  intro x
  cases e with
  | Set a k p => cases it <;> simp [okI, ok_set] at h
  | _ => rfl
theorem RvOks.back {H0 : Hp} {M : AS} {Hs Hs' H : Hp} {vs : List V} {rs : List Rv} (e : Same Hs' Hs) (h : RvOks H0 M Hs H vs rs) : RvOks H0 M Hs' H vs rs := by
  induction h with
  | nil => exact .nil
  | cons a _ ih => exact .cons (a.back e) ih
theorem okEs_nil {N : List Str} {sc : Scope} {ms : MEs} (h : okEs N sc ms [] = true) : ms = .nil := by
  cases ms with
  | nil => rfl
  | cons _ _ => simp [okEs] at h
/-! sorted with a def as its key -/
theorem keyR_ok {r : R Rv} {k : Int} (h : keyR r = .ok k) : ∃ m, r = .ok (.fr m (.int k)) := by
  unfold keyR at h
  split at h
  · cases h; exact ⟨_, rfl⟩
  · cases h
theorem keyR_ne (r : R Rv) (x : Str) : keyR r ≠ .err x := by
  unfold keyR
  split <;> simp
theorem keysR_ne (g : List D → R Rv) : ∀ (ds : List D) (x : Str), keysR g ds ≠ .err x
  | [], x => by simp [keysR]
  | d :: ds, x => by
    intro h
    unfold keysR at h
    cases e1 : keyR (g [d]) with
    | bad => rw [e1] at h; cases h
    | err y => exact keyR_ne _ _ e1
    | ok k =>
      rw [e1] at h
      cases e2 : keysR g ds with
      | bad => simp only [R.bind, e2] at h; cases h
      | err y => exact keysR_ne g ds _ e2
      | ok ks => simp only [R.bind, e2] at h; cases h
theorem keysR_cons {g : List D → R Rv} {d : D} {ds : List D} {ks : List Int} (h : keysR g (d :: ds) = .ok ks) : ∃ k l, ks = k :: l ∧ keyR (g [d]) = .ok k ∧ keysR g ds = .ok l := by
  unfold keysR at h
  cases e1 : keyR (g [d]) with
  | bad => rw [e1] at h; cases h
  | err y => rw [e1] at h; cases h
  | ok k =>
    rw [e1] at h
    cases e2 : keysR g ds with
    | bad => simp only [R.bind, e2] at h; cases h
    | err y => simp only [R.bind, e2] at h; cases h
    | ok l =>
      simp only [R.bind, e2] at h
      cases h
      exact ⟨k, l, rfl, rfl, rfl⟩
theorem keysR_len {g : List D → R Rv} : ∀ {ds : List D} {ks : List Int}, keysR g ds = .ok ks → ks.length = ds.length
  | [], ks, h => by
    have h : (R.ok [] : R (List Int)) = .ok ks := h
    cases h; rfl
  | d :: ds, ks, h => by
    obtain ⟨k, l, rfl, _, h2⟩ := keysR_cons h
    rw [List.length_cons, List.length_cons, keysR_len h2]
theorem keysR_at {g : List D → R Rv} : ∀ {ds : List D} {ks : List Int}, keysR g ds = .ok ks → ∀ {i : Nat} {d : D} {k : Int}, ds[i]? = some d → ks[i]? = some k → ∃ m, g [d] = .ok (.fr m (.int k))
  | [], ks, h, i, d, k, hd, hk => by simp at hd
  | e :: ds, ks, h, i, d, k, hd, hk => by
    obtain ⟨k', l, rfl, h1, h2⟩ := keysR_cons h
    cases i with
    | zero =>
      simp at hd hk
      subst hd hk
      exact keyR_ok h1
    | succ i => exact keysR_at h2 (i := i) (by simpa using hd) (by simpa using hk)
theorem zip3L : ∀ {ks : List Int} {xs : List V} {ds : List D}, xs.length = ds.length → ks.zip xs = (ks.zip (xs.zip ds)).map fun q => (q.1, q.2.1)
  | [], _, _, _ => rfl
  | _ :: _, [], _, _ => by simp
  | _ :: _, _ :: _, [], h => by simp at h
  | k :: ks, x :: xs, d :: ds, h => by
    simp only [List.zip_cons_cons, List.map_cons]
    rw [zip3L (ks := ks) (xs := xs) (ds := ds) (by simpa using h)]
theorem zip3R : ∀ {ks : List Int} {xs : List V} {ds : List D}, xs.length = ds.length → ks.zip ds = (ks.zip (xs.zip ds)).map fun q => (q.1, q.2.2)
  | [], _, _, _ => rfl
  | _ :: _, [], [], _ => by simp
  | _ :: _, [], _ :: _, h => by simp at h
  | _ :: _, _ :: _, [], h => by simp at h
  | k :: ks, x :: xs, d :: ds, h => by
    simp only [List.zip_cons_cons, List.map_cons]
    rw [zip3R (ks := ks) (xs := xs) (ds := ds) (by simpa using h)]
theorem Dts.zipM {H : Hp} {L : AS} : ∀ {xs : List V} {ds : List D}, Dts H L xs ds → ∀ p ∈ xs.zip ds, Dt H L p.1 p.2
  | [], _, h, p, hp => by simp at hp
  | x :: xs, _, h, p, hp => by
    cases h with
    | cons a b =>
      rcases List.mem_cons.mp hp with rfl | hp
      · exact a
      · exact b.zipM p hp
theorem dts_of3 {H : Hp} {L : AS} : ∀ {T : List (Int × (V × D))}, (∀ p ∈ T, Dt H L p.2.1 p.2.2) → Dts H L (T.map fun p => p.2.1) (T.map fun p => p.2.2)
  | [], _ => .nil
  | p :: T, h => .cons (h p List.mem_cons_self) (dts_of3 fun q hq => h q (List.mem_cons_of_mem _ hq))
theorem srt_dts {H : Hp} {L : AS} {ks : List Int} {xs : List V} {ds : List D} (h : Dts H L xs ds) : Dts H L ((srtK (ks.zip xs)).map (·.2)) ((srtK (ks.zip ds)).map (·.2)) := by
  rw [zip3L (ks := ks) h.length, zip3R (ks := ks) h.length, srtK_map, srtK_map, List.map_map, List.map_map]
  exact dts_of3 fun p hp => h.zipM _ (List.of_mem_zip ((srtK_ok _).2.perm.mem_iff.mp hp)).2
theorem srk_data {K : PySem.W.Frag} {mg : Str → Option Value} {fa l : Addr} {g : List D → R Rv} {H0 : Hp} {M0 : AS} {Hs H : Hp} {M : AS} {σ : L2.St} {env : List Sl} {ds : List D} {xs : List V} {ks : List Int} {m : Bool} {Q : VK} (ok : EnvOk H0 M0 H M σ env) (s1 : Same Hs H) (r' : Rd H l (.lst xs)) (s' : Dts H (Lm H0 M m) xs ds) (ek : keysR g ds = .ok ks)
    (q : ∀ v H', Same Hs H' → RvOk H0 M Hs H' v (.ow m (.list ((srtK (ks.zip ds)).map (·.2)))) → Q v H') : rSrk K fa (spG mg 1 g) [.ref l] [.ref fa] H Q := by
  refine ⟨l, xs, ks, rfl, rfl, .inl r', by rw [keysR_len ek, s'.length], fun i x k hx hk H' sm => ?_, fun p H' sm hp => ?_⟩
  · obtain ⟨d, hd, dt⟩ := s'.getV hx
    obtain ⟨b, hg⟩ := keysR_at ek hd hk
    refine ⟨rfl, M, [d], fun a ha => ?_, .cons ((sm_dt sm dt).wk fun a l => l.1) .nil, ?_⟩
    · obtain ⟨o, e, mu⟩ := ok.dom a ha
      exact ⟨o, sm _ _ e, mu⟩
    · rw [hg]
      intro v H'' s2 rv
      have rv : Dt H'' _ v (.int k) := rv
      cases rv
      exact ⟨rfl, s2⟩
  · exact q _ _ ((s1.trans sm).trans (same_new hp)) (zn_rv (m := m) (nw := true) (ok.up sm) (s1.trans sm) (zn_new hp (sm_dts sm (srt_dts s'))))
theorem mkE {X : Cx} {Γ : FT} {E : XK} {m : ME} {e : Expr} (h : PE X e (tE Γ E X.mg m)) (he : ∀ whole, isTrue e X.env whole = (do let v ← whole; standAt e.pos; holding [v] (truthy v))) : PE X e (tE Γ E X.mg m) ∧ PT X e (tT Γ E X.mg m) := ⟨h, pt_of h he⟩
/-- a truth's reading -/
theorem rp_truth {E : XK} {mg : Str → Option Value} {H0 : Hp} {M : AS} {Hs H H1 : Hp} {r : Rv} {k : Bool → Prop} {v : V} (q : Rp E mg H1 (truth r) k) (rv : RvOk H0 M Hs H v r) : ∃ b, v = .bl b ∧ k b := by
  cases e : truth r with
  | bad => rw [e] at q; exact q.elim
  | err x =>
    cases r with
    | fr m d => cases d <;> simp [truth] at e
    | ow m d => simp [truth] at e
    | bo m d => simp [truth] at e
  | ok b =>
    rw [e] at q
    exact ⟨b, truth_bl rv e, q⟩
theorem sc_sc {H0 : Hp} {M : AS} {Hs H : Hp} {v : V} {r : Rv} {i : Int} (h : RvOk H0 M Hs H v r) (e : r.d = .int i) : v = .int i := by
  have := h.cn
  rw [e] at this
  cases this
  rfl
theorem semIx_int {d i z : D} (h : semIx d i = some z) : ∃ n, i = .int n := by
  cases d <;> cases i <;> simp only [semIx, reduceCtorEq] at h <;> exact ⟨_, rfl⟩
theorem Rp.same2 {E : XK} {mg : Str → Option Value} {α β : Type} {H H1 : Hp} {r : R α} {f : α → R β} {k : β → Prop} (h : Rp E mg H (r.bind f) k) (e : Same H H1) : Rp E mg H1 r fun a => Rp E mg H (f a) k := (Rp.bind h).same e
theorem rv_top {H0 : Hp} {M : AS} {Hs H : Hp} {r : Rv} {v : V} (rv : RvOk H0 M Hs H v r) (hb : isBo r = false) : ∀ a, v = .ref a → (∃ l, r.d = .list l) → Lm H0 M r.m a := fun a ea hd => by
  obtain ⟨l, hl⟩ := hd
  cases r with
  | fr m d =>
    have hl : d = .list l := hl
    subst hl
    cases rv with
    | lst q _ _ =>
      cases ea
      exact q
  | ow m d =>
    obtain ⟨b, rfl, _, h1, h2, _⟩ := rv
    cases ea
    exact ⟨h1, fun _ => h2⟩
  | bo m d => simp [isBo] at hb
theorem lcR_ne {f : D → R (Option (Bool × D))} (hf : ∀ d x, f d ≠ .err x) : ∀ (ds : List D) (x : Str), lcR f ds ≠ .err x
  | [], _ => by simp [lcR]
  | d :: ds, x => by
    intro z
    unfold lcR at z
    cases e : f d with
    | bad => rw [e] at z; cases z
    | err y => exact hf d y e
    | ok o =>
      rw [e] at z
      simp only [R.bind] at z
      cases e2 : lcR f ds with
      | bad => rw [e2] at z; cases z
      | err y => exact lcR_ne hf ds y e2
      | ok q =>
        rw [e2] at z
        cases o <;> cases z
theorem noErr_ok {α : Type} {r : R α} {a : α} (h : noErr r = .ok a) : r = .ok a := by
  cases r with
  | bad => cases h
  | err x => cases h
  | ok b => cases h; rfl
theorem noErr_ne {α : Type} (r : R α) (x : Str) : noErr r ≠ .err x := by cases r <;> simp [noErr]
theorem R.bind_ok {α β : Type} {r : R α} {f : α → R β} {b : β} (h : r.bind f = .ok b) : ∃ a, r = .ok a ∧ f a = .ok b := by
  cases r with
  | bad => cases h
  | err x => cases h
  | ok a => exact ⟨a, rfl, h⟩
theorem dts_upd {H : Hp} {L : AS} {p : Addr} {o u : HO} {xs : List V} {ds : List D} (hL : ¬ L p) (hp : H p = some u) (ht : ∀ xs, u ≠ .tup xs ∧ ∀ o, u ≠ .frz o (.tup xs)) (h : Dts H L xs ds) : Dts (upd H p o) L xs ds :=
  Dts.go (fun a u l e => ⟨by rw [upd_ne (fun z => hL (by rw [← z]; exact l))]; exact e, l⟩) (fun a ys r => by
    have ne : a ≠ p := fun z => by
      subst z
      rcases r with r | ⟨o, r⟩
      · rw [hp] at r; cases r; exact (ht ys).1 rfl
      · rw [hp] at r; cases r; exact (ht ys).2 o rfl
    rcases r with r | ⟨o, r⟩
    · exact .inl (by rw [upd_ne ne]; exact r)
    · exact .inr ⟨o, by rw [upd_ne ne]; exact r⟩) ds xs h
theorem dt_upd {H : Hp} {L : AS} {p : Addr} {o u : HO} {x : V} {d : D} (hL : ¬ L p) (hp : H p = some u) (ht : ∀ xs, u ≠ .tup xs ∧ ∀ o, u ≠ .frz o (.tup xs)) (h : Dt H L x d) : Dt (upd H p o) L x d :=
  (dts_upd hL hp ht (.cons h .nil)).cons_inv.1
theorem rp_src {H0 : Hp} {M : AS} {Hs H : Hp} {r : Rv} {v : V} {ds : List D} (rv : RvOk H0 M Hs H v r) (hb : isBo r = false) (e : itemsOf r.d = some ds) : ∃ xs G, SrcOf v xs G ∧ Dts H (Lm H0 M r.m) xs ds ∧ G H ∧ ∀ H' L2, Kp H (Lm H0 M r.m) H' L2 → G H' := by
  refine src_cn rv.cn (fun a ea hd => ?_) e
  obtain ⟨l, hl⟩ := hd
  cases r with
  | fr m d =>
    have hl : d = .list l := hl
    subst hl
    cases rv with
    | lst q _ _ =>
      cases ea
      exact q
  | ow m d =>
    obtain ⟨b, rfl, _, h1, h2, _⟩ := rv
    cases ea
    exact ⟨h1, fun _ => h2⟩
  | bo m d => simp [isBo] at hb

theorem lc_imp {Γ : FT} {E : XK} {X : Cx} {g : MG} {it : MI} {c : MO} {elt : ME} (σ : L2.St) (H : Hp) (Q : VK) (h : tE Γ E X.mg (.lc g it c elt) σ H Q) :
    tLc (tI Γ E X.mg it) (gOf X g) (tC Γ (fun _ _ _ => False) X.mg c) (tE Γ (fun _ _ _ => False) X.mg elt) (idx g) σ H Q := by
  obtain ⟨H0, M0, M, env, eo, q⟩ := h
  simp only [evE] at q
  refine ⟨H0, M0, M, env, eo, (Rp.bind q).imp fun p _ q J H1 s1 wk D hD => ?_⟩
  generalize hf : (fun d => noErr ((bindG g p.1 d env).bind fun env' => (evC Γ env' c).bind fun t => if t then ((evE Γ env' elt).bind sto).bind (fun q => .ok (some q)) else .ok none)) = f at q
  have hne : ∀ d x, f d ≠ .err x := fun d x => by rw [← hf]; exact noErr_ne _ _
  cases hr : lcR f p.2 with
  | bad => rw [hr] at q; exact q.elim
  | err x => exact absurd hr (lcR_ne hne _ _)
  | ok r =>
    rw [hr] at q
    simp only [R.bind] at q
    split at q
    · rename_i hz
      have hz := fits_le hz
      obtain ⟨G, Y, w, hG, hY⟩ := wk
      have eD := (eo.up s1).fresh hD
      have kp : ∀ {H2 : Hp}, Same H1 H2 → Kp H1 (Lm H0 M p.1) H2 (Lm H0 (fun a => M a ∨ a = D) p.1) := fun {H2} s => ⟨fun a u l e => ⟨s _ _ e, fun z => z.elim l.1 fun z => (by rw [z, hD] at e; cases e), l.2⟩, fun a xs r => sm_rd s r⟩
      refine lc_it w (Qd := Q (.ref D)) (fun i H2 => Same H1 H2 ∧ ∃ acc outs rest, H2 D = some (.lst acc) ∧ Dts H2 (Lm H0 (fun a => M a ∨ a = D) r.1) acc outs ∧ acc.length ≤ i ∧ lcR f (p.2.drop i) = .ok rest ∧ (rest.1 = true → r.1 = true) ∧ r.2 = outs ++ rest.2) ?_ ?_ ?_ ?_
      · exact ⟨same_new hD, [], [], r, upd_same, .nil, Nat.le_refl _, by simpa using hr, fun z => z, rfl⟩
      · rintro i H2 _ ⟨s, _⟩
        exact hG H2 _ (kp s)
      · rintro i v H2 H3 hlt ⟨s, acc, outs, rest, e1, e2, e3, e4, e5, e6⟩ y
        have hd : p.2[i]? = some p.2[i] := List.getElem?_eq_getElem hlt
        rw [List.drop_eq_getElem_cons hlt] at e4
        generalize p.2[i] = d at hd e4
        obtain ⟨s3, t3⟩ := hY i H2 v H3 d _ (kp s) y hd
        unfold lcR at e4
        obtain ⟨o, f1, e4⟩ := R.bind_ok e4
        obtain ⟨rest', f2, e4⟩ := R.bind_ok e4
        rw [← hf] at f1
        obtain ⟨env', b1, f1⟩ := R.bind_ok (noErr_ok f1)
        obtain ⟨t, c1, f1⟩ := R.bind_ok f1
        have s13 := s.trans s3
        have eo3 : EnvOk H0 M0 H3 (fun a => M a ∨ a = D) σ env := (eo.up s1).add hD s13 ⟨_, s3 _ _ e1, trivial⟩
        refine bind_ok (eo3.wipe (idx g)) t3 (bind_wipe b1) fun σ2 eo4 g1 g2 => ⟨?_, ?_⟩
        · rw [wipe_ext (σ := wipe σ (idx g)) (by rw [g2]) g1]
          exact wipe_ext (wipe_length _ _) fun i hi => wipe_get hi
        · refine ⟨H0, M0, _, env', eo4, ?_⟩
          rw [c1]
          intro H4 s4
          cases t with
          | true =>
            rw [if_pos rfl] at f1 ⊢
            obtain ⟨pr, f5, f6⟩ := R.bind_ok f1
            obtain ⟨r1, v1, v2⟩ := R.bind_ok f5
            cases f6
            refine ⟨H0, M0, _, env', eo4.up s4, ?_⟩
            rw [v1]
            intro y' H5 s5 rv
            have s35 := s4.trans s5
            have s25 := s3.trans s35
            have d5 := s25 _ _ e1
            refine ⟨acc, d5, by omega, ?_, acc ++ [y'], outs ++ [pr.2], rest', upd_same, ?_, ?_, f2, ?_, ?_⟩
            · intro b o hb
              rw [upd_ne (ne_of_none hb hD)]
              exact (s.trans s25) _ _ hb
            · cases e4
              refine dts_upd (fun z => z.1 (.inr rfl)) d5 (fun xs => ⟨fun z => (nomatch z), fun o z => (nomatch z)⟩) ((sm_dts s25 e2).append (.cons ((rv.sto v2).wk fun a q => q.le fun z => e5 (by simp [z])) .nil))
            · rw [List.length_append, List.length_singleton]
              omega
            · cases e4
              exact fun z => e5 (by simp [z])
            · cases e4
              rw [e6, List.append_assoc]
              rfl
          | false =>
            rw [if_neg (by simp)] at f1 ⊢
            cases f1
            cases e4
            have s24 := s3.trans s4
            exact ⟨s.trans s24, acc, outs, rest, s24 _ _ e1, sm_dts s24 e2, by omega, f2, e5, e6⟩
      · rintro H2 ⟨s, acc, outs, rest, e1, e2, e3, e4, e5, e6⟩
        rw [List.drop_length] at e4
        cases e4
        rw [List.append_nil] at e6
        refine q _ _ (s1.trans s) ⟨D, rfl, s1.free hD, eD.1, eD.2, ?_⟩
        rw [e6]
        exact .lst e1 (e2.wk fun a l => ⟨⟨fun z => l.1 (.inl z), l.2⟩, fun z => l.1 (.inr z)⟩)
    · exact q.elim
section
variable {Γ : FT} {k : Nat}
mutual
theorem sE : ∀ (m : ME) {X : Cx} {E : XK} (e : Expr), Ok X Γ E k → okE X.N X.env.scope m e = true → PE X e (tE Γ E X.mg m) ∧ PT X e (tT Γ E X.mg m)
  | .v i, X, E, e, ok, h => by
    simp only [okE] at h
    split at h
    · refine mkE ((pe_v h).imp fun σ H Q ⟨H0, M0, M, env, eo, q⟩ => by
        simp only [evE, getSl] at q
        split at q
        · rename_i m d e1
          obtain ⟨v, e2, t⟩ := eo.sl i _ e1
          exact ⟨v, e2, q v H (Same.refl _) t⟩
        · rename_i m d e1
          obtain ⟨a, e2, _, _, t⟩ := eo.sl i _ e1
          exact ⟨_, e2, q _ H (Same.refl _) t.cn⟩
        · exact q.elim) fun _ => rfl
    · cases h
  | .kn, X, E, e, ok, h => by
    simp only [okE] at h
    split at h
    · refine mkE ((pe_non (X := X)).imp fun σ H Q ⟨H0, M0, M, env, eo, q⟩ => q _ H (Same.refl _) .non) fun _ => rfl
    · cases h
  | .kb b, X, E, e, ok, h => by
    simp only [okE] at h
    split at h
    · rename_i c _ _
      have hb := of_decide_eq_true h
      subst hb
      refine mkE ((pe_bl (X := X)).imp fun σ H Q ⟨H0, M0, M, env, eo, q⟩ => q _ H (Same.refl _) (.bl b)) fun _ => rfl
    · cases h
  | .ki b, X, E, e, ok, h => by
    simp only [okE] at h
    split at h
    · have hb := of_decide_eq_true h
      subst hb
      refine mkE ((pe_int (X := X)).imp fun σ H Q ⟨H0, M0, M, env, eo, q⟩ => q _ H (Same.refl _) (.int b)) fun _ => rfl
    · cases h
  | .ks b, X, E, e, ok, h => by
    simp only [okE] at h
    split at h
    · have hb := of_decide_eq_true h
      subst hb
      refine mkE ((pe_str (X := X)).imp fun σ H Q ⟨H0, M0, M, env, eo, q⟩ => q _ H (Same.refl _) (.str b)) fun _ => rfl
    · cases h
  | .lst ms, X, E, e, ok, h => by
    simp only [okE] at h
    split at h
    · refine mkE ((pe_lst (sEs ms _ ok h).1).imp fun σ H Q ⟨H0, M0, M, env, eo, q⟩ => by
        simp only [evE] at q
        refine ⟨H0, M0, M, env, eo, (Rp.bind q).imp fun rs _ q vs H1 s1 rv => ?_⟩
        cases es : stos rs with
        | bad => rw [es] at q; exact q.elim
        | err x => exact absurd es (stos_ne _ _)
        | ok p =>
          rw [es] at q
          have d := rv.stos es
          simp only [R.bind] at q
          split at q
          · rename_i hz
            exact ⟨by rw [d.length]; exact fits_le hz, fun a ha => q _ _ (s1.trans (same_new ha)) ⟨a, rfl, s1.free ha, ((eo.up s1).fresh ha).1, ((eo.up s1).fresh ha).2, .lst upd_same (dts_new ha d)⟩⟩
          · exact q.elim) fun _ => rfl
    · cases h
  | .tup ms, X, E, e, ok, h => by
    simp only [okE] at h
    split at h
    · refine mkE ((pe_tup (sEs ms _ ok h).1).imp fun σ H Q ⟨H0, M0, M, env, eo, q⟩ => by
        simp only [evE] at q
        refine ⟨H0, M0, M, env, eo, (Rp.bind q).imp fun rs _ q vs H1 s1 rv => ?_⟩
        cases es : stos rs with
        | bad => rw [es] at q; exact q.elim
        | err x => exact absurd es (stos_ne _ _)
        | ok p =>
          rw [es] at q
          have d := rv.stos es
          simp only [R.bind] at q
          split at q
          · rename_i hz
            exact ⟨by rw [d.length]; exact fits_le hz, fun a ha => q _ _ (s1.trans (same_new ha)) (.tup (.inl upd_same) (sm_dts (same_new ha) d))⟩
          · exact q.elim) fun _ => rfl
    · cases h
  | .dK0, X, E, e, ok, h => by
    simp only [okE] at h
    split at h
    · refine mkE ((pe_dnewK (X := X)).imp fun σ H Q ⟨H0, M0, M, env, eo, q⟩ => fun a ha =>
        q _ _ (same_new ha) ⟨a, rfl, ha, (eo.fresh ha).1, (eo.fresh ha).2, .dK (kvs := []) upd_same rfl .nil⟩) fun _ => rfl
    · cases h
  | .bin op a b, X, E, e, ok, h => by
    simp only [okE] at h
    split at h
    · simp only [Bool.and_eq_true, decide_eq_true_eq] at h
      obtain ⟨⟨rfl, h1⟩, h2⟩ := h
      refine mkE ((pe_op (bin_ok op) (sE a _ ok h1).1 (sE b _ ok h2).1).imp fun σ H Q ⟨H0, M0, M, env, eo, q⟩ => by
        simp only [evE] at q
        refine ⟨H0, M0, M, env, eo, (Rp.bind q).imp fun r _ q v H1 s1 rv => ⟨H0, M0, M, env, eo.up s1, ((Rp.bind q).same s1).imp fun r2 _ q u H2 s2 rv2 => ?_⟩⟩
        obtain ⟨nw, z, e, q⟩ := Rp.lift q
        exact ⟨Lm H0 M (r.m || r2.m), r.d, r2.d, nw, z, (sm_cn s2 rv.cn).wk fun _ => Lm.orl, rv2.cn.wk fun _ => Lm.orr, e, fun v' H3 zn => q v' H3 ((s1.trans s2).trans zn.1) (zn_rv (eo.up (s1.trans s2)) (s1.trans s2) zn)⟩) fun _ => rfl
    · cases h
  | .neg a, X, E, e, ok, h => by
    simp only [okE] at h
    split at h
    · refine mkE ((pe_un un_neg (sE a _ ok h).1).imp fun σ H Q ⟨H0, M0, M, env, eo, q⟩ => by
        simp only [evE] at q
        refine ⟨H0, M0, M, env, eo, (Rp.bind q).imp fun r _ q v H1 s1 rv => ?_⟩
        split at q
        · rename_i i hi
          exact ⟨i, sc_sc rv hi, q _ H1 s1 (.int _)⟩
        · exact q.elim) fun _ => rfl
    · cases h
  | .cmp op a b, X, E, e, ok, h => by
    simp only [okE] at h
    split at h
    · simp only [Bool.and_eq_true, decide_eq_true_eq, Bool.not_eq_true'] at h
      obtain ⟨⟨⟨rfl, hm⟩, h1⟩, h2⟩ := h
      have i : ∀ (σ : L2.St) (H : Hp) (Q : VK), tE Γ E X.mg (.cmp op a b) σ H Q → tOp (rC (semCmp op)) (tE Γ E X.mg a) (tE Γ E X.mg b) σ H Q := fun σ H Q ⟨H0, M0, M, env, eo, q⟩ => by
        simp only [evE] at q
        refine ⟨H0, M0, M, env, eo, (Rp.bind q).imp fun r _ q v H1 s1 rv => ⟨H0, M0, M, env, eo.up s1, ((Rp.bind q).same s1).imp fun r2 _ q u H2 s2 rv2 => ?_⟩⟩
        obtain ⟨b', e, q⟩ := Rp.liftB q
        exact ⟨Lm H0 M (r.m || r2.m), r.d, r2.d, b', (sm_cn s2 rv.cn).wk fun _ => Lm.orl, rv2.cn.wk fun _ => Lm.orr, e, q _ H2 (s1.trans s2) (.bl b')⟩
      refine ⟨(pe_cmpR (cmp_ok ok.hu op) (sE a _ ok h1).1 (sE b _ ok h2).1 hm).imp i, (pt_cmpR (cmp_ok ok.hu op) (sE a _ ok h1).1 (sE b _ ok h2).1 hm).imp fun σ H Q ⟨H0, M0, M, env, eo, q⟩ => ?_⟩
      refine i σ H _ ⟨H0, M0, M, env, eo, (Rp.bind q).imp fun r _ q v H1 s1 rv => ?_⟩
      obtain ⟨b', rfl, q⟩ := rp_truth q rv
      exact ⟨b', rfl, q H1 s1⟩
    · cases h
  | .chn op op2 a b c, X, E, e, ok, h => by
    simp only [okE] at h
    split at h
    · simp only [Bool.and_eq_true, decide_eq_true_eq, Bool.not_eq_true'] at h
      obtain ⟨⟨⟨⟨⟨rfl, rfl⟩, hm⟩, h1⟩, h2⟩, h3⟩ := h
      have i : ∀ (σ : L2.St) (H : Hp) (Q : VK), tE Γ E X.mg (.chn op op2 a b c) σ H Q → tChain (rC (semCmp op)) (rC (semCmp op2)) (tE Γ E X.mg a) (tE Γ E X.mg b) (tE Γ E X.mg c) σ H Q := fun σ H Q ⟨H0, M0, M, env, eo, q⟩ => by
        simp only [evE] at q
        refine ⟨H0, M0, M, env, eo, (Rp.bind q).imp fun r _ q v H1 s1 rv => ⟨H0, M0, M, env, eo.up s1, ((Rp.bind q).same s1).imp fun r2 _ q u H2 s2 rv2 => ?_⟩⟩
        have c1 := (sm_cn s2 rv.cn).wk (L' := Lm H0 M (r.m || r2.m)) fun _ => Lm.orl
        have c2 := rv2.cn.wk (L' := Lm H0 M (r.m || r2.m)) fun _ => Lm.orr
        split at q
        · rename_i e1
          refine ⟨Lm H0 M (r.m || r2.m), r.d, r2.d, true, c1, c2, e1, true, rfl, ?_⟩
          rw [if_pos rfl]
          refine ⟨H0, M0, M, env, eo.up (s1.trans s2), (q.same2 (s1.trans s2)).imp fun r3 _ q w H3 s3 rv3 => ?_⟩
          obtain ⟨b', e, q⟩ := Rp.liftB q
          exact ⟨Lm H0 M (r2.m || r3.m), r2.d, r3.d, b', (sm_cn s3 rv2.cn).wk fun _ => Lm.orl, rv3.cn.wk fun _ => Lm.orr, e, q _ H3 ((s1.trans s2).trans s3) (.bl b')⟩
        · rename_i e1
          refine ⟨Lm H0 M (r.m || r2.m), r.d, r2.d, false, c1, c2, e1, false, rfl, ?_⟩
          rw [if_neg (by simp)]
          exact q _ H2 (s1.trans s2) (.bl false)
        · exact q.elim
      have hm' : lastMarks [op, op2] [_, _] = false := hm
      refine ⟨(pe_chain (cmp_ok ok.hu op) (cmp_ok ok.hu op2) (sE a _ ok h1).1 (sE b _ ok h2).1 (sE c _ ok h3).1 hm').imp i, (pt_chain (cmp_ok ok.hu op) (cmp_ok ok.hu op2) (sE a _ ok h1).1 (sE b _ ok h2).1 (sE c _ ok h3).1 hm').imp fun σ H Q ⟨H0, M0, M, env, eo, q⟩ => ?_⟩
      refine i σ H _ ⟨H0, M0, M, env, eo, (Rp.bind q).imp fun r _ q v H1 s1 rv => ?_⟩
      obtain ⟨b', rfl, q⟩ := rp_truth q rv
      exact ⟨b', rfl, q H1 s1⟩
    · cases h
  | .bop con ms, X, E, e, ok, h => by
    simp only [okE] at h
    have fin : ∀ {es : List Expr} {pos : Pos}, okEs X.N X.env.scope ms es = true → e = .BoolOp (bOp con) es pos → PE X e (tE Γ E X.mg (.bop con ms)) ∧ PT X e (tT Γ E X.mg (.bop con ms)) := fun {es pos} hh he => by
      subst he
      cases es with
      | nil =>
        have bad : ∀ env, evB Γ env con ms = .bad := fun env => by
          rw [okEs_nil hh]
          rfl
        refine ⟨⟨fun pins s σ H Q I ⟨H0, M0, M, env, eo, q⟩ => ?_⟩, ⟨fun pins s σ H Q I ⟨H0, M0, M, env, eo, q⟩ => ?_⟩⟩
        · simp only [evE, bad env] at q
          exact q.elim
        · simp only [evE, bad env] at q
          exact q.elim
      | cons y ys =>
        obtain ⟨p1, p2⟩ := (sEs ms (y :: ys) ok hh).2 con (by simp) pos
        refine ⟨p1.imp fun σ H Q ⟨H0, M0, M, env, eo, q⟩ => ?_, p2.pt.imp fun σ H Q ⟨H0, M0, M, env, eo, q⟩ => ?_⟩
        · simp only [evE] at q
          exact ⟨H0, M0, M, env, eo, (Rp.bind q).imp fun b _ q H1 s1 => q _ H1 s1 (.bl b)⟩
        · simp only [evE] at q
          exact ⟨H0, M0, M, env, eo, (Rp.bind (Rp.bind q)).imp fun b _ q H1 s1 => q H1 s1⟩
    split at h
    · simp only [Bool.and_eq_true] at h
      obtain ⟨hc, h⟩ := h
      subst hc
      exact fin h rfl
    · simp only [Bool.and_eq_true, Bool.not_eq_true'] at h
      obtain ⟨hc, h⟩ := h
      subst hc
      exact fin h rfl
    · cases h
  | .not_ a, X, E, e, ok, h => by
    simp only [okE] at h
    split at h
    · obtain ⟨p1, p2⟩ := sE a _ ok h
      refine ⟨(pe_not p1).imp fun σ H Q ⟨H0, M0, M, env, eo, q⟩ => ?_, (pt_not p2).imp fun σ H Q ⟨H0, M0, M, env, eo, q⟩ => ?_⟩
      · simp only [evE] at q
        refine ⟨H0, M0, M, env, eo, (Rp.bind q).imp fun r _ q v H1 s1 rv => ?_⟩
        obtain ⟨b', rfl, q⟩ := rp_truth (Rp.bind q) rv
        exact ⟨b', rfl, q _ H1 s1 (.bl _)⟩
      · simp only [evE] at q
        refine ⟨H0, M0, M, env, eo, Rp.of_bind ((Rp.bind (Rp.bind q)).imp fun r _ q => (Rp.bind q).imp fun b _ q H1 s1 => q H1 s1)⟩
    · cases h
  | .ite c a b, X, E, e, ok, h => by
    simp only [okE] at h
    split at h
    · simp only [Bool.and_eq_true] at h
      obtain ⟨⟨h1, h2⟩, h3⟩ := h
      obtain ⟨pa, ta⟩ := sE a _ ok h2
      obtain ⟨pb, tb⟩ := sE b _ ok h3
      have pc := (sE c _ ok h1).2
      refine ⟨(pe_ifExp pc pa pb).imp fun σ H Q ⟨H0, M0, M, env, eo, q⟩ => ?_, ⟨fun pins s σ H Q I ⟨H0, M0, M, env, eo, q⟩ => ?_⟩⟩
      · simp only [evE] at q
        refine ⟨H0, M0, M, env, eo, Rp.of_bind ((Rp.bind q).imp fun r _ q => (Rp.bind q).imp fun t _ q H1 s1 => ?_)⟩
        cases t with
        | true => exact ⟨H0, M0, M, env, eo.up s1, (Rp.same q s1).imp fun r _ q v H2 s2 rv => q v H2 (s1.trans s2) (rv.back s1)⟩
        | false => exact ⟨H0, M0, M, env, eo.up s1, (Rp.same q s1).imp fun r _ q v H2 s2 rv => q v H2 (s1.trans s2) (rv.back s1)⟩
      · simp only [evE] at q
        refine isTrue_IfExp (thn (pc.run pins s σ H (fun t H1 => if t = true then tT Γ E X.mg a σ H1 Q else tT Γ E X.mg b σ H1 Q) I ⟨H0, M0, M, env, eo, Rp.of_bind ((Rp.bind (Rp.bind q)).imp fun r _ q => (Rp.bind (Rp.of_bind (Rp.bind q))).imp fun t _ q H1 s1 => ?_)⟩) fun t s1 ⟨H1, I1, q1⟩ => ?_)
        · cases t with
          | true =>
            rw [if_pos rfl] at q ⊢
            exact ⟨H0, M0, M, env, eo.up s1, Rp.of_bind ((Rp.same q s1).imp fun r _ q => (Rp.same q s1).imp fun b _ q H2 s2 => q H2 (s1.trans s2))⟩
          | false =>
            rw [if_neg (by simp)] at q ⊢
            exact ⟨H0, M0, M, env, eo.up s1, Rp.of_bind ((Rp.same q s1).imp fun r _ q => (Rp.same q s1).imp fun b _ q H2 s2 => q H2 (s1.trans s2))⟩
        · cases t with
          | true => exact ta.run pins s1 σ H1 Q I1 q1
          | false => exact tb.run pins s1 σ H1 Q I1 q1
    · cases h
  | .ix a i, X, E, e, ok, h => by
    simp only [okE] at h
    split at h
    · simp only [Bool.and_eq_true] at h
      obtain ⟨h1, h2⟩ := h
      refine mkE ((pe_ix ix_ok (sE a _ ok h1).1 (sE i _ ok h2).1 (plain_ix h2)).imp fun σ H Q ⟨H0, M0, M, env, eo, q⟩ => by
        simp only [evE] at q
        refine ⟨H0, M0, M, env, eo, (Rp.bind q).imp fun r _ q v H1 s1 rv => ⟨H0, M0, M, env, eo.up s1, ((Rp.bind q).same s1).imp fun r2 _ q u H2 s2 rv2 => ?_⟩⟩
        obtain ⟨nw, z, e, q⟩ := Rp.lift q
        cases e2 : semIx r.d r2.d with
        | none => rw [e2] at e; cases e
        | some z' =>
          rw [e2] at e
          cases e
          have c2 : Cn H2 (Lm H0 M r.m) u r2.d := by
            obtain ⟨n, hn⟩ := semIx_int e2
            rw [hn, sc_sc rv2 hn]
            exact .int n
          exact ⟨Lm H0 M r.m, r.d, r2.d, z, sm_cn s2 rv.cn, c2, e2, fun v' t => q v' H2 (s1.trans s2) (zn_rv (eo.up (s1.trans s2)) (s1.trans s2) (zn_dt t))⟩) fun _ => rfl
    · cases h
  | .sl a lo hi, X, E, e, ok, h => by
    simp only [okE] at h
    split at h
    · simp only [Bool.and_eq_true] at h
      obtain ⟨⟨h1, h2⟩, h3⟩ := h
      refine mkE ((pe_slice sl_ok (sE a _ ok h1).1 (sO lo _ ok h2) (sO hi _ ok h3)).imp fun σ H Q ⟨H0, M0, M, env, eo, q⟩ => by
        simp only [evE] at q
        refine ⟨H0, M0, M, env, eo, (Rp.bind q).imp fun r _ q v H1 s1 rv => ⟨H0, M0, M, env, eo.up s1, ((Rp.bind q).same s1).imp fun l _ q H2 s2 => ⟨H0, M0, M, env, eo.up (s1.trans s2), ((Rp.bind q).same (s1.trans s2)).imp fun u _ q H3 s3 => ?_⟩⟩⟩
        obtain ⟨nw, z, e, q⟩ := Rp.lift q
        have s4 := (s1.trans s2).trans s3
        exact ⟨Lm H0 M r.m, r.d, nw, z, sm_cn (s2.trans s3) rv.cn, e, fun v' H4 zn => q v' H4 (s4.trans zn.1) (zn_rv (eo.up s4) s4 zn)⟩) fun _ => rfl
    · cases h
  | .bi f ms, X, E, e, ok, h => by
    simp only [okE] at h
    split at h
    · simp only [Bool.and_eq_true, decide_eq_true_eq] at h
      obtain ⟨⟨⟨rfl, h1⟩, h2⟩, h3⟩ := h
      obtain ⟨u, hu⟩ := Option.isSome_iff_exists.mp h2
      obtain ⟨b1, b2, b3, b4⟩ := boot_bi hu
      have hm := ok.blt f b4
      have sa := (sEs ms _ ok h3).1
      have h3' := h3
      have hst : ∀ x es, okEs X.N X.env.scope ms (x :: es) = true → starEach (x :: es) X.env = (false, eval x X.env) :: starEach es X.env ∧ ∀ pos, (backTo pos (starEach es X.env)).any (·.1) = false := fun x es hh => by
        cases ms with
        | nil => simp [okEs] at hh
        | cons m ms' =>
          simp only [okEs, Bool.and_eq_true] at hh
          exact ⟨star_cons hh.1 es _, fun pos => back_any pos _ (star_none hh.2)⟩
      have i : ∀ (σ : L2.St) (H : Hp) (Q : VK), tE Γ E X.mg (.bi f ms) σ H Q → tCB (rBi f) (tEs Γ E X.mg ms) σ H Q := fun σ H Q ⟨H0, M0, M, env, eo, q⟩ => by
        simp only [evE] at q
        refine ⟨H0, M0, M, env, eo, (Rp.bind q).imp fun rs _ q vs H1 s1 rv => ?_⟩
        obtain ⟨nw, z, e, q⟩ := Rp.lift q
        exact ⟨Lm H0 M (anyM rs), _, nw, z, rv.cns fun r hr hm => anyM_mem hr hm, e, fun v' H2 zn => q v' H2 (s1.trans zn.1) (zn_rv (eo.up s1) s1 zn)⟩
      rcases biV_ty hu with ⟨n, rfl⟩ | ⟨n, rfl⟩
      · exact mkE ((pe_callB (bi_ok ok.calm hu) (gl_of h1).1 hm b1 sa b2 b3 (hst _ _ h3).1 ((hst _ _ h3).2 _)).imp i) fun _ => rfl
      · exact mkE ((pe_callTy (bi_ok ok.calm hu) (gl_of h1).1 hm b1 sa b2 b3 (hst _ _ h3).1 ((hst _ _ h3).2 _)).imp i) fun _ => rfl
    · cases h
  | .isi a T, X, E, e, ok, h => by
    simp only [okE] at h
    split at h
    · simp only [Bool.and_eq_true, decide_eq_true_eq] at h
      obtain ⟨⟨⟨⟨⟨rfl, h1⟩, rfl⟩, h2⟩, h3⟩, h4⟩ := h
      have h3' : (decide (T = "str") || decide (T = "bool") || decide (T = "int") || decide (T = "list") || decide (T = "tuple")) = true := by simpa using h3
      obtain ⟨b1, b2, b3, b4⟩ := boot_ty h3'
      refine mkE ((pe_callB call_isi (gl_of h1).1 (ok.blt _ (by decide)) (by decide +kernel) (pa_cons (sE a _ ok h4).1 (pa_cons (pe_bltn (v := .ty (tyS T)) (gl_of h2).1 (ok.blt _ b4) b1 rfl b2 b3) pa_nil (by rfl)) (star_cons h4 _ _)) (by decide) (by decide) (star_cons h4 _ _) (by rfl)).imp fun σ H Q ⟨H0, M0, M, env, eo, q⟩ => by
        simp only [evE] at q
        refine ⟨H0, M0, M, env, eo, (Rp.bind q).imp fun r _ q v H1 s1 rv => ?_⟩
        obtain ⟨b', e, q⟩ := Rp.liftB q
        exact ⟨v, .ty (tyS T), .type (tyN r.d), .type (tyS T), b', rfl, .ty _, ty_cn rv.cn, isi_kit e, q _ H1 s1 (.bl b')⟩) fun _ => rfl
    · cases h
  | .mt o f ms, X, E, e, ok, h => by
    simp only [okE] at h
    split at h
    · simp only [Bool.and_eq_true, Bool.or_eq_true, decide_eq_true_eq] at h
      obtain ⟨⟨⟨⟨⟨rfl, h1⟩, h2⟩, h3⟩, h4⟩, h5⟩ := h
      have sa := (sEs ms _ ok h5).1
      have hst : ∀ x es, okEs X.N X.env.scope ms (x :: es) = true → starEach (x :: es) X.env = (false, eval x X.env) :: starEach es X.env ∧ (starEach es X.env).any (·.1) = false := fun x es hh => by
        cases ms with
        | nil => simp [okEs] at hh
        | cons m ms' =>
          simp only [okEs, Bool.and_eq_true] at hh
          exact ⟨star_cons hh.1 es _, star_none hh.2⟩
      have hat : ∀ x : Expr, okE X.N X.env.scope o x = true → attributeBase x f X.env (eval x X.env) = eval x X.env := fun x hx => by
        unfold attributeBase
        split
        · exfalso
          cases o <;> simp [okE] at hx
        · rfl
      have hfew : ∀ (x : Expr) (es : List Expr) (cp : Pos), okEs X.N X.env.scope ms (x :: es) = true → es.length < 20 → ((backTo cp (starEach (x :: es) X.env)).all (fun x => !x.1) && (backToKw cp (keywordEach [] X.env)).all (fun x => x.1.isSome)
          && decide ((x :: es).length + ([] : List Keyword).length + (if ([] : List Keyword).isEmpty then 0 else 1) < 30)) = true := fun x es cp hh hl => by
        rw [back_all cp _ (by rw [(hst x es hh).1, List.any_cons, (hst x es hh).2]; rfl)]
        have : decide ((x :: es).length + ([] : List Keyword).length + (if ([] : List Keyword).isEmpty then 0 else 1) < 30) = true := by
          apply decide_eq_true
          simp
          omega
        rw [this]
        rfl
      rcases h1 with (h1 | h1) | h1 <;> subst h1
      · refine mkE ((pe_bm PySem.F.plainAttrs_str PySem.F.slot_str_join PySem.F.type_str_join mt_ok_join (sE o _ ok h4).1 sa (hat _ h4) (hfew _ _ _ h5 h3) h2 (hst _ _ h5).1 (back_any _ _ (hst _ _ h5).2)).imp fun σ H Q ⟨H0, M0, M, env, eo, q⟩ => by
          simp only [evE] at q
          refine ⟨H0, M0, M, env, eo, (Rp.bind q).imp fun r _ q v H1 s1 rv => ?_⟩
          split at q
          · rename_i hr
            obtain ⟨z, hz⟩ : ∃ z, r.d = .str z := by
              cases hd : r.d <;> rw [hd] at hr <;> simp [isStr] at hr
              exact ⟨_, rfl⟩
            have ev : v = .str z := by
              have := rv.cn
              rw [hz] at this
              cases this
              rfl
            refine ⟨by rw [ev]; rfl, H0, M0, M, env, eo.up s1, ((Rp.bind q).same s1).imp fun rs _ q vs H2 s2 rv2 => ?_⟩
            obtain ⟨nw, z', e, q⟩ := Rp.lift q
            have e : m_join r.d (rs.map Rv.d) = some (nw, z') := e
            have e2 := sc_join e
            exact ⟨Lm H0 M true, r.d, _, nw, z', (sm_cn s2 rv.cn).wk fun _ q => q.le fun _ => rfl, rv2.cns (m := true) fun _ _ _ => rfl, e, fun v' t _ => q v' H2 (s1.trans s2) (zn_rv (eo.up (s1.trans s2)) (s1.trans s2) (by rw [e2.1]; exact zn_dt (t.cn.dt_sc e2.2)))⟩
          · exact q.elim) fun _ => rfl
      · refine mkE ((pe_bm PySem.F.plainAttrs_str PySem.F.slot_str_startswith PySem.F.type_str_startswith mt_ok_starts (sE o _ ok h4).1 sa (hat _ h4) (hfew _ _ _ h5 h3) h2 (hst _ _ h5).1 (back_any _ _ (hst _ _ h5).2)).imp fun σ H Q ⟨H0, M0, M, env, eo, q⟩ => by
          simp only [evE] at q
          refine ⟨H0, M0, M, env, eo, (Rp.bind q).imp fun r _ q v H1 s1 rv => ?_⟩
          split at q
          · rename_i hr
            obtain ⟨z, hz⟩ : ∃ z, r.d = .str z := by
              cases hd : r.d <;> rw [hd] at hr <;> simp [isStr] at hr
              exact ⟨_, rfl⟩
            have ev : v = .str z := by
              have := rv.cn
              rw [hz] at this
              cases this
              rfl
            refine ⟨by rw [ev]; rfl, H0, M0, M, env, eo.up s1, ((Rp.bind q).same s1).imp fun rs _ q vs H2 s2 rv2 => ?_⟩
            obtain ⟨nw, z', e, q⟩ := Rp.lift q
            have e : m_startswith r.d (rs.map Rv.d) = some (nw, z') := e
            have e2 := sc_starts e
            exact ⟨Lm H0 M true, r.d, _, nw, z', (sm_cn s2 rv.cn).wk fun _ q => q.le fun _ => rfl, rv2.cns (m := true) fun _ _ _ => rfl, e, fun v' t _ => q v' H2 (s1.trans s2) (zn_rv (eo.up (s1.trans s2)) (s1.trans s2) (by rw [e2.1]; exact zn_dt (t.cn.dt_sc e2.2)))⟩
          · exact q.elim) fun _ => rfl
      · refine mkE ((pe_bm PySem.F.plainAttrs_str PySem.F.slot_str_count PySem.F.type_str_count mt_ok_count (sE o _ ok h4).1 sa (hat _ h4) (hfew _ _ _ h5 h3) h2 (hst _ _ h5).1 (back_any _ _ (hst _ _ h5).2)).imp fun σ H Q ⟨H0, M0, M, env, eo, q⟩ => by
          simp only [evE] at q
          refine ⟨H0, M0, M, env, eo, (Rp.bind q).imp fun r _ q v H1 s1 rv => ?_⟩
          split at q
          · rename_i hr
            obtain ⟨z, hz⟩ : ∃ z, r.d = .str z := by
              cases hd : r.d <;> rw [hd] at hr <;> simp [isStr] at hr
              exact ⟨_, rfl⟩
            have ev : v = .str z := by
              have := rv.cn
              rw [hz] at this
              cases this
              rfl
            refine ⟨by rw [ev]; rfl, H0, M0, M, env, eo.up s1, ((Rp.bind q).same s1).imp fun rs _ q vs H2 s2 rv2 => ?_⟩
            obtain ⟨nw, z', e, q⟩ := Rp.lift q
            have e : m_count r.d (rs.map Rv.d) = some (nw, z') := e
            have e2 := sc_count e
            exact ⟨Lm H0 M true, r.d, _, nw, z', (sm_cn s2 rv.cn).wk fun _ q => q.le fun _ => rfl, rv2.cns (m := true) fun _ _ _ => rfl, e, fun v' t _ => q v' H2 (s1.trans s2) (zn_rv (eo.up (s1.trans s2)) (s1.trans s2) (by rw [e2.1]; exact zn_dt (t.cn.dt_sc e2.2)))⟩
          · exact q.elim) fun _ => rfl
    · cases h
  | .call f ms, X, E, e, ok, h => by
    simp only [okE] at h
    split at h
    · simp only [Bool.and_eq_true, decide_eq_true_eq] at h
      obtain ⟨⟨rfl, h1⟩, h3⟩ := h
      have sa := (sEs ms _ ok h3).1
      have hst : ∀ x es, okEs X.N X.env.scope ms (x :: es) = true → starEach (x :: es) X.env = (false, eval x X.env) :: starEach es X.env ∧ ∀ pos, (backTo pos (starEach es X.env)).any (·.1) = false := fun x es hh => by
        cases ms with
        | nil => simp [okEs] at hh
        | cons m ms' =>
          simp only [okEs, Bool.and_eq_true] at hh
          exact ⟨star_cons hh.1 es _, fun pos => back_any pos _ (star_none hh.2)⟩
      cases hΓ : Γ f with
      | none =>
        refine ⟨⟨fun pins s σ H Q I ⟨H0, M0, M, env, eo, q⟩ => ?_⟩, ⟨fun pins s σ H Q I ⟨H0, M0, M, env, eo, q⟩ => ?_⟩⟩
        · simp only [evE, hΓ] at q
          exact q.elim
        · simp only [evE, hΓ] at q
          exact q.elim
      | some p =>
        obtain ⟨n, g⟩ := p
        obtain ⟨fa, fd, ps, F, mf, kf, bf⟩ := ok.fns f n g hΓ
        have cp : ∀ (cls : Value) (d : Option Addr) (σ : L2.St) (H : Hp), E cls d H → E cls d H := fun _ _ _ _ q => q
        refine mkE ((pe_call F (ok.room.mono (by omega)) (gl_of h1).1 mf kf bf .nil (passes_call ok.tk cp) sa (gl_of h1).2 (hst _ _ h3).1 ((hst _ _ h3).2 _)).imp fun σ H Q ⟨H0, M0, M, env, eo, q⟩ => by
          simp only [evE, hΓ] at q
          refine ⟨H0, M0, M, env, eo, (Rp.bind q).imp fun rs _ q vs H1 s1 rv => ?_⟩
          split at q
          · rename_i hn
            obtain ⟨Mc, m1, m2, ds⟩ := args_ok (eo.up s1) rv
            rw [List.append_nil]
            refine ⟨by rw [rv.length]; exact hn, Mc, _, fun a ha => (eo.up s1).dom a (m1 a ha), ds, ((Rp.bind q).same s1).imp fun r _ q v H2 s2 rv2 => ?_⟩
            cases e : ans (rs.any isBo) r with
            | bad => rw [e] at q; exact q.elim
            | err x => exact absurd e (ans_ne _ _ _)
            | ok r' =>
              rw [e] at q
              exact q v H2 (s1.trans s2) (rv2.ans (eo.up s1) s1 m2 e)
          · exact q.elim) fun _ => rfl
    · cases h
  | .rep a y z, X, E, e, ok, h => by
    simp [okE] at h
  | .dgt i k d, X, E, e, ok, h => by
    simp only [okE] at h
    split at h
    · rename_i x p0 m ap y z cp
      simp only [Bool.and_eq_true, decide_eq_true_eq] at h
      obtain ⟨⟨⟨⟨h1, rfl⟩, h2⟩, h3⟩, h4⟩ := h
      have hm : M2 X (.Name x p0) "get" ap y z cp := ⟨rfl, by rw [star_cons h3, star_cons h4]; rfl, h2, by rw [star_cons h3, star_cons h4]; rfl⟩
      have hu1 : X.A.units + 1 < cLine := by have := ok.hu; omega
      refine mkE ((pe_dget2 hu1 (pe_v h1) (sE k y ok h3).1 (sE d z ok h4).1 hm).imp fun σ H Q ⟨H0, M0, M, env, eo, q⟩ => by
        simp only [evE] at q
        have key : ∀ (x : Rv) (vx : V), σ[i]? = some (some vx) → Cn H (Lm H0 M x.m) vx x.d → Rp E X.mg H (match x.d with
            | .dict es => (evE Γ env k).bind fun y => (evE Γ env d).bind fun z => match y.d with
              | .str key => match getS es key with
                | some v => .ok (mk x.m false v)
                | none => if isBo z then .bad else .ok z
              | _ => .bad
            | _ => .bad) (fun r => ∀ v H', Same H H' → RvOk H0 M H H' v r → Q v H') → tDGet2 (tVar i) (tE Γ E X.mg k) (tE Γ E X.mg d) σ H Q := fun x vx hv c q => by
          refine ⟨vx, hv, ?_⟩
          split at q
          · rename_i es hd
            rw [hd] at c
            cases c with
            | @dK a kvs _ r' hk hvs =>
              refine ⟨a, rfl, .inl ⟨kvs, .inl r'⟩, H0, M0, M, env, eo, (Rp.bind q).imp fun ry _ q v1 H1 s1 rv1 => ⟨H0, M0, M, env, eo.up s1, ((Rp.bind q).same s1).imp fun rz _ q v2 H2 s2 rv2 => ?_⟩⟩
              split at q
              · rename_i key hy
                have c1 := rv1.cn
                rw [hy] at c1
                cases c1
                have s12 := s1.trans s2
                refine ⟨valV kvs (.inr key), DGet.k (k := .inr key) (s12 _ _ r'), ?_⟩
                have gv := get_val key hk (sm_dvs s12 hvs)
                split at q
                · rename_i v hg
                  rw [hg] at gv
                  obtain ⟨u, e1, t⟩ := gv
                  rw [e1]
                  exact q u H2 s12 (zn_rv (Hs := H) (nw := false) (eo.up s12) s12 (zn_dt t))
                · rename_i hg
                  rw [hg] at gv
                  have gv : valV kvs (.inr key) = none := gv
                  rw [gv]
                  split at q
                  · exact q.elim
                  · exact q v2 H2 s12 (rv2.back s1)
              · exact q.elim
          · exact q.elim
        unfold getSl at q
        split at q
        · rename_i m d' e'
          obtain ⟨v, q1, t⟩ := eo.sl i _ e'
          exact key (.fr m d') v q1 t.cn q
        · rename_i m d' e'
          obtain ⟨a, q1, _, _, t⟩ := eo.sl i _ e'
          exact key (.bo m d') _ q1 t.cn q
        · exact q.elim) fun _ => rfl
    · cases h
  | .lix a b, X, E, e, ok, h => by
    simp only [okE] at h
    split at h
    · rename_i x m ap y cp
      simp only [Bool.and_eq_true, decide_eq_true_eq] at h
      obtain ⟨⟨⟨rfl, h2⟩, h3⟩, h4⟩ := h
      have hat : attributeBase x "index" X.env (eval x X.env) = eval x X.env := by
        unfold attributeBase
        split
        · exfalso
          cases a <;> simp [okE] at h3
        · rfl
      refine mkE ((pe_bm PySem.F.plainAttrs_list PySem.F.slot_list_index PySem.F.type_list_index mt_index (sE a x ok h3).1 (pa_cons (sE b y ok h4).1 pa_nil (star_cons h4 _ _)) hat (by rw [star_cons h4]; rfl) h2 (star_cons h4 _ _) rfl).imp fun σ H Q ⟨H0, M0, M, env, eo, q⟩ => by
        simp only [evE] at q
        refine ⟨H0, M0, M, env, eo, (Rp.bind q).imp fun r _ q v H1 s1 rv => ?_⟩
        split at q
        · rename_i ds hr
          have c := rv.cn
          rw [hr] at c
          cases c with
          | @lst l xs _ r' s' =>
            refine ⟨.inl ⟨rfl, xs, .inl r'⟩, H0, M0, M, env, eo.up s1, ((Rp.bind q).same s1).imp fun r2 _ q v2 H2 s2 rv2 => ?_⟩
            split at q
            · rename_i j hj
              unfold semLix at hj
              simp only at hj
              split at hj
              · rename_i hz
                simp only [Bool.and_eq_true] at hz
                cases hf : ds.findIdx? fun z => PyData.eqv z r2.d with
                | none => rw [hf] at hj; cases hj
                | some jn =>
                  rw [hf] at hj
                  cases hj
                  obtain ⟨hlt, h5, h6⟩ := List.findIdx?_eq_some_iff_getElem.mp hf
                  have sx := sm_dts s2 s'
                  have dy : Dt H2 (Lm H0 M r2.m) v2 r2.d := rv2.cn.dt_sc hz.1
                  obtain ⟨zv, e1, t1⟩ := sx.get (List.getElem?_eq_getElem hlt)
                  have sc1 : ∀ z, z ∈ ds → sc z = true := List.all_eq_true.mp hz.2
                  refine ⟨l, xs, v2, jn, zv, rfl, rfl, .inl (sm_rd s2 r'), flat_sc dy hz.1, flats_sc sx hz.2, e1, ?_, fun n z' hn ez => ?_, q _ H2 (s1.trans s2) (.int _)⟩
                  · rw [eqV_sc t1 dy (sc1 _ (List.getElem_mem hlt)) hz.1]
                    exact h5
                  · obtain ⟨d', e2, t2⟩ := sx.getV ez
                    have hn2 : n < ds.length := by omega
                    rw [List.getElem?_eq_getElem hn2] at e2
                    cases e2
                    rw [eqV_sc t2 dy (sc1 _ (List.getElem_mem hn2)) hz.1]
                    simpa using h6 n hn
              · cases hj
            · exact q.elim
        · exact q.elim) fun _ => rfl
    · cases h
  | .srk a f, X, E, e, ok, h => by
    simp only [okE] at h
    split at h
    · simp only [Bool.and_eq_true, decide_eq_true_eq] at h
      obtain ⟨⟨⟨⟨⟨rfl, h1⟩, rfl⟩, rfl⟩, h2⟩, h3⟩ := h
      cases hΓ : Γ f with
      | none =>
        refine ⟨⟨fun pins s σ H Q I ⟨H0, M0, M, env, eo, q⟩ => ?_⟩, ⟨fun pins s σ H Q I ⟨H0, M0, M, env, eo, q⟩ => ?_⟩⟩
        · simp only [evE, hΓ] at q
          exact q.elim
        · simp only [evE, hΓ] at q
          exact q.elim
      | some p =>
        obtain ⟨n, g⟩ := p
        obtain ⟨fa, fd, ps, F, mf, kf, bf⟩ := ok.fns f n g hΓ
        refine mkE ((pe_srk F ok.room bf (gl_of h1).1 (ok.blt _ (by decide)) (gl_of h2).1 (gl_of h2).2 mf (sE a _ ok h3).1 (star_cons h3 _ _)).imp fun σ H Q ⟨H0, M0, M, env, eo, q⟩ => by
          simp only [evE, hΓ] at q
          split at q
          · rename_i hn
            subst hn
            refine ⟨H0, M0, M, env, eo, (Rp.bind q).imp fun r _ q v H1 s1 rv => ?_⟩
            split at q
            · rename_i ds hd
              have c := rv.cn
              rw [hd] at c
              cases c with
              | @lst l xs _ r' s' =>
                cases ek : keysR g ds with
                | bad => rw [ek] at q; exact q.elim
                | err x => exact absurd ek (keysR_ne _ _ _)
                | ok ks =>
                  rw [ek] at q
                  have q := Rp.ok q
                  exact srk_data (eo.up s1) s1 r' s' ek q
            · exact q.elim
          · exact q.elim) fun _ => rfl
    · cases h
  | .rvl a, X, E, e, ok, h => by
    simp only [okE] at h
    split at h
    · simp only [Bool.and_eq_true, decide_eq_true_eq] at h
      obtain ⟨⟨⟨⟨rfl, h1⟩, rfl⟩, h2⟩, h3⟩ := h
      refine mkE ((pe_lstRev ok.calm (gl_of h1).1 (ok.blt _ (by decide)) (gl_of h2).1 (ok.blt _ (by decide)) (sE a _ ok h3).1 (star_cons h3 _ _) (by rfl)).imp fun σ H Q ⟨H0, M0, M, env, eo, q⟩ => by
        simp only [evE] at q
        refine ⟨H0, M0, M, env, eo, (Rp.bind q).imp fun r _ q v H1 s1 rv => ?_⟩
        split at q
        · rename_i ds hd
          have q := Rp.ok q
          have c := rv.cn
          rw [hd] at c
          cases c with
          | @lst a xs _ r' s' =>
            refine ⟨a, xs, rfl, .inl r', fun p hp => ?_⟩
            exact q _ _ (s1.trans (same_new hp)) (zn_rv (m := r.m) (eo.up s1) s1 (zn_new hp s'.reverse))
        · exact q.elim) fun _ => rfl
    · cases h
  | .lr a b, X, E, e, ok, h => by
    simp only [okE] at h
    split at h
    · simp only [Bool.and_eq_true, decide_eq_true_eq] at h
      obtain ⟨⟨⟨⟨⟨rfl, h1⟩, rfl⟩, h2⟩, h3⟩, h4⟩ := h
      cases b with
      | so _ => simp [okO] at h4
      | no =>
      cases a with
      | no => simp [okO] at h3
      | so a =>
      have h3 : okE X.N X.env.scope a _ = true := h3
      refine mkE ((pe_listRg ok.calm (gl_of h1).1 (ok.blt _ (by decide)) (prg_1 (gl_of h2).1 (ok.blt _ (by decide)) (sE a _ ok h3).1 (star_cons h3 _ _)) (by rfl)).imp fun σ H Q ⟨H0, M0, M, env, eo, q⟩ => by
        simp only [evE, evO] at q
        refine ⟨H0, M0, M, env, eo, (Rp.bind (Rp.bind q)).imp fun r _ q v H1 s1 rv => ?_⟩
        split at q
        · rename_i n hn
          replace q := Rp.ok q
          dsimp only [R.bind] at q
          split at q
          · rename_i hz
            simp only [Bool.and_eq_true, decide_eq_true_eq, sm] at hz
            refine ⟨n, sc_sc rv hn, ⟨by decide, by decide, hz.1.1, hz.1.2, by simpa using hz.2⟩, fun p hp => ?_⟩
            refine q _ _ (s1.trans (same_new hp)) ⟨p, rfl, s1.free hp, ((eo.up s1).fresh hp).1, ((eo.up s1).fresh hp).2, .lst upd_same ?_⟩
            exact rg_dts 0 n _ (by simp)
          · exact q.elim
        · exact q.elim) fun _ => rfl
    · simp only [Bool.and_eq_true, decide_eq_true_eq] at h
      obtain ⟨⟨⟨⟨⟨rfl, h1⟩, rfl⟩, h2⟩, h3⟩, h4⟩ := h
      cases b with
      | no => simp [okO] at h4
      | so b =>
      cases a with
      | no => simp [okO] at h3
      | so a =>
      have h3 : okE X.N X.env.scope a _ = true := h3
      have h4 : okE X.N X.env.scope b _ = true := h4
      refine mkE ((pe_listRg ok.calm (gl_of h1).1 (ok.blt _ (by decide)) (prg_2 (gl_of h2).1 (ok.blt _ (by decide)) (sE a _ ok h3).1 (sE b _ ok h4).1 (star_cons h3 _ _) (star_cons h4 _ _) (by rw [star_cons h4 _ _]; rfl)) (by rfl)).imp fun σ H Q ⟨H0, M0, M, env, eo, q⟩ => by
        simp only [evE, evO] at q
        refine ⟨H0, M0, M, env, eo, (Rp.bind (Rp.bind q)).imp fun r _ q v H1 s1 rv => ?_⟩
        split at q
        · rename_i i hi
          replace q := Rp.ok q
          dsimp only [R.bind] at q
          refine ⟨H0, M0, M, env, eo.up s1, ((Rp.bind (Rp.bind q)).same s1).imp fun r2 _ q u H2 s2 rv2 => ?_⟩
          split at q
          · rename_i j hj
            replace q := Rp.ok q
            dsimp only [R.bind] at q
            split at q
            · rename_i hz
              simp only [Bool.and_eq_true, decide_eq_true_eq, sm] at hz
              refine ⟨i, j, sc_sc rv hi, sc_sc rv2 hj, ⟨hz.1.1.1, hz.1.1.2, hz.1.2.1, hz.1.2.2, hz.2⟩, fun p hp => ?_⟩
              have s12 := s1.trans s2
              refine q _ _ (s12.trans (same_new hp)) ⟨p, rfl, s12.free hp, ((eo.up s12).fresh hp).1, ((eo.up s12).fresh hp).2, .lst upd_same ?_⟩
              exact rg_dts i j _ rfl
            · exact q.elim
          · exact q.elim
        · exact q.elim) fun _ => rfl
    · cases h
  | .lc g it c elt, X, E, e, ok, h => by
    simp only [okE] at h
    split at h
    · rename_i x tg iter ifs scope pos
      simp only [Bool.and_eq_true] at h
      obtain ⟨⟨⟨⟨h1, h2⟩, h3⟩, h4⟩, h5⟩ := h
      refine mkE ?_ fun _ => rfl
      have hi := sI it tg iter ok h3
      have hown : (ownOf X.N g).map (·.2) = idx g := by
        unfold ownOf
        rw [List.map_map]
        exact List.map_id'' (fun _ => rfl) _
      have P := pe_lc (te := tE Γ (fun _ _ _ => False) X.mg elt) (tt := tC Γ (fun _ _ _ => False) X.mg c) (g := gOf X g) (pos := pos) ok.calm ok.nd hi (blkOk_by h1)
        (fun s H C cl fp => g_ok (X := X.blk s H scope (compEnvC scope cl C X.env) fp) ok.nd ok.calm fnIn_blk h2)
        (fun s H C cl fp => sC c ifs (ok_blk ok) h4) (fun s H C cl fp => (sE elt x (ok_blk ok) h5).1) (no_setI h3)
      rw [hown] at P
      exact P.imp lc_imp
    · cases h
theorem sEs : ∀ (ms : MEs) {X : Cx} {E : XK} (es : List Expr), Ok X Γ E k → okEs X.N X.env.scope ms es = true → PA X es (tEs Γ E X.mg ms) ∧
    (∀ con, es ≠ [] → ∀ pos, PE X (.BoolOp (bOp con) es pos) (tBv Γ E X.mg con ms) ∧ PW X (.BoolOp (bOp con) es pos) (tBt Γ E X.mg con ms))
  | .nil, X, E, es, ok, h => by
    simp only [okEs] at h
    split at h
    · exact ⟨pa_nil.imp fun σ H Q ⟨H0, M0, M, env, eo, q⟩ => q [] H (Same.refl _) .nil, fun _ z => absurd rfl z⟩
    · cases h
  | .cons m ms, X, E, es, ok, h => by
    simp only [okEs] at h
    split at h
    · rename_i e r
      simp only [Bool.and_eq_true] at h
      obtain ⟨h1, h2⟩ := h
      obtain ⟨p1, p2⟩ := sE m e ok h1
      obtain ⟨q1, q2⟩ := sEs ms r ok h2
      refine ⟨(pa_cons p1 q1 (star_cons h1 _ _)).imp fun σ H Q ⟨H0, M0, M, env, eo, q⟩ => ?_, fun con _ pos => ?_⟩
      · simp only [evEs] at q
        exact ⟨H0, M0, M, env, eo, (Rp.bind q).imp fun x _ q v H1 s1 rv => ⟨H0, M0, M, env, eo.up s1, ((Rp.bind q).same s1).imp fun xs _ q vs H2 s2 rvs => q _ H2 (s1.trans s2) (.cons (rv.same s2) (rvs.back s1))⟩⟩
      · cases r with
        | nil =>
          have hm := okEs_nil h2
          subst hm
          have i : ∀ (σ : L2.St) (H : Hp) (Q : Bool → Hp → Prop), tBt Γ E X.mg con (.cons m .nil) σ H Q → tT Γ E X.mg m σ H Q := fun σ H Q ⟨H0, M0, M, env, eo, q⟩ => by
            simp only [evB] at q
            exact ⟨H0, M0, M, env, eo, q⟩
          refine ⟨(pe_one p1).imp fun σ H Q ⟨H0, M0, M, env, eo, q⟩ => ?_, ?_⟩
          · simp only [evB] at q
            refine ⟨H0, M0, M, env, eo, (Rp.bind q).imp fun r _ q v H1 s1 rv => ?_⟩
            obtain ⟨b', rfl, q⟩ := rp_truth q rv
            exact q H1 s1
          · cases con with
            | true => exact (pw_and1 p2).imp i
            | false => exact (pw_or1 p2).imp i
        | cons y ys =>
          obtain ⟨b1, b2⟩ := q2 con (by simp) pos
          cases ms with
          | nil => simp [okEs] at h2
          | cons m2 ms2 =>
          have iv : ∀ (σ : L2.St) (H : Hp) (Q : VK), tBv Γ E X.mg con (.cons m (.cons m2 ms2)) σ H Q → tE Γ E X.mg m σ H fun x H1 => ∃ c, x = .bl c ∧ if c = con then tBv Γ E X.mg con (.cons m2 ms2) σ H1 Q else Q (.bl c) H1 := fun σ H Q ⟨H0, M0, M, env, eo, q⟩ => by
            simp only [evB] at q
            refine ⟨H0, M0, M, env, eo, (Rp.bind (Rp.bind q)).imp fun r _ q v H1 s1 rv => ?_⟩
            obtain ⟨c, rfl, q⟩ := rp_truth q rv
            refine ⟨c, rfl, ?_⟩
            by_cases hc : c = con
            · rw [if_pos hc] at q ⊢
              exact ⟨H0, M0, M, env, eo.up s1, (Rp.same q s1).imp fun b _ q H2 s2 => q H2 (s1.trans s2)⟩
            · rw [if_neg hc] at q ⊢
              exact q H1 s1
          have it : ∀ (σ : L2.St) (H : Hp) (Q : Bool → Hp → Prop), tBt Γ E X.mg con (.cons m (.cons m2 ms2)) σ H Q → tT Γ E X.mg m σ H fun c H1 => if c = con then tBt Γ E X.mg con (.cons m2 ms2) σ H1 Q else Q c H1 := fun σ H Q ⟨H0, M0, M, env, eo, q⟩ => by
            simp only [evB] at q
            refine ⟨H0, M0, M, env, eo, (Rp.bind q).imp fun c _ q H1 s1 => ?_⟩
            by_cases hc : c = con
            · rw [if_pos hc] at q ⊢
              exact ⟨H0, M0, M, env, eo.up s1, (Rp.same q s1).imp fun b _ q H2 s2 => q H2 (s1.trans s2)⟩
            · rw [if_neg hc] at q ⊢
              exact q H1 s1
          cases con with
          | true =>
            refine ⟨(pe_and p1 b1).imp fun σ H Q q => ?_, (pw_and p2 b2).imp fun σ H Q q => ?_⟩
            · obtain ⟨H0, M0, M, env, eo, q⟩ := iv σ H Q q
              refine ⟨H0, M0, M, env, eo, q.imp fun r _ q v H1 s1 rv => ?_⟩
              obtain ⟨c, rfl, q⟩ := q v H1 s1 rv
              refine ⟨c, rfl, ?_⟩
              cases c with
              | true => exact q
              | false => exact q
            · obtain ⟨H0, M0, M, env, eo, q⟩ := it σ H Q q
              refine ⟨H0, M0, M, env, eo, q.imp fun c _ q H1 s1 => ?_⟩
              have q := q H1 s1
              cases c with
              | true => exact q
              | false => exact q
          | false =>
            refine ⟨(pe_or p1 b1).imp fun σ H Q q => ?_, (pw_or p2 b2).imp fun σ H Q q => ?_⟩
            · obtain ⟨H0, M0, M, env, eo, q⟩ := iv σ H Q q
              refine ⟨H0, M0, M, env, eo, q.imp fun r _ q v H1 s1 rv => ?_⟩
              obtain ⟨c, rfl, q⟩ := q v H1 s1 rv
              refine ⟨c, rfl, ?_⟩
              cases c with
              | true => exact q
              | false => exact q
            · obtain ⟨H0, M0, M, env, eo, q⟩ := it σ H Q q
              refine ⟨H0, M0, M, env, eo, q.imp fun c _ q H1 s1 => ?_⟩
              have q := q H1 s1
              cases c with
              | true => exact q
              | false => exact q
    · cases h
theorem sO : ∀ (m : MO) {X : Cx} {E : XK} (o : Option Expr), Ok X Γ E k → okO X.N X.env.scope m o = true → PO X o (tO Γ E X.mg m)
  | .no, X, E, o, ok, h => by
    simp only [okO] at h
    split at h
    · exact po_none.imp fun σ H Q ⟨H0, M0, M, env, eo, q⟩ => q H (Same.refl _)
    · cases h
  | .so m, X, E, o, ok, h => by
    simp only [okO] at h
    split at h
    · refine (po_some (sE m _ ok h).1).imp fun σ H Q ⟨H0, M0, M, env, eo, q⟩ => ?_
      simp only [evO] at q
      refine ⟨H0, M0, M, env, eo, (Rp.bind q).imp fun r _ q v H1 s1 rv => ?_⟩
      split at q
      · rename_i i hi
        exact ⟨i, sc_sc rv hi, q H1 s1⟩
      · exact q.elim
    · cases h
theorem sC : ∀ (m : MO) {X : Cx} {E : XK} (o : List Expr), Ok X Γ E k → okC X.N X.env.scope m o = true → PTs X o (tC Γ E X.mg m)
  | .no, X, E, o, ok, h => by
    simp only [okC] at h
    split at h
    · exact ⟨fun pins s σ H Q I ⟨H0, M0, M, env, eo, q⟩ => pts_nil.run pins s σ H Q I (q H (Same.refl _))⟩
    · cases h
  | .so m, X, E, o, ok, h => by
    simp only [okC] at h
    split at h
    · refine ⟨fun pins s σ H Q I ⟨H0, M0, M, env, eo, q⟩ => (pts_one (sE m _ ok h).2).run pins s σ H Q I ⟨H0, M0, M, env, eo, ?_⟩⟩
      simp only [evC] at q
      exact q
    · cases h
theorem sI : ∀ (it : MI) {X : Cx} {E : XK} (tg iter : Expr), Ok X Γ E k → okI X.N X.env.scope it tg iter = true → PI X tg iter (tI Γ E X.mg it)
  | .e a, X, E, tg, iter, ok, h => by
    simp only [okI] at h
    refine (pi_val (sE a _ ok h).1).imp fun σ H R ⟨H0, M0, M, env, eo, q⟩ => ?_
    simp only [evI] at q
    refine ⟨H0, M0, M, env, eo, (Rp.bind q).imp fun r _ q v H1 s1 rv => ?_⟩
    split at q
    · exact q.elim
    · rename_i hb
      have hb : isBo r = false := by simpa using hb
      split at q
      · rename_i ds hd
        have tp := rv_top rv hb
        have c := rv.cn
        have q : ∀ J H', Same H H' → Wk H' (Lm H0 M r.m) J ds → R J H' := q
        generalize r.d = d at hd tp c
        cases c <;> simp only [itemsOf, reduceCtorEq] at hd
        · cases hd
          exact .inr (.inr ⟨_, rfl, q _ H1 s1 (wk_str _)⟩)
        · rename_i r' s'
          cases hd
          exact .inl ⟨_, _, rfl, .inl r', q _ H1 s1 (wk_list r' (tp _ rfl ⟨_, rfl⟩) s')⟩
        · rename_i r' s'
          cases hd
          exact .inr (.inl ⟨_, _, rfl, .inl r', q _ H1 s1 (wk_tup r' s')⟩)
      · exact q.elim
  | .r1 a, X, E, tg, iter, ok, h => by
    simp only [okI] at h
    split at h
    · simp only [Bool.and_eq_true, decide_eq_true_eq] at h
      obtain ⟨⟨rfl, h1⟩, h2⟩ := h
      refine (pi_range1 (gl_of h1).1 (ok.blt _ (by decide)) (pa_cons (sE a _ ok h2).1 pa_nil (star_cons h2 _ _)) (star_cons h2 _ _)).imp fun σ H R ⟨H0, M0, M, env, eo, q⟩ => ?_
      simp only [evI] at q
      refine ⟨H0, M0, M, env, eo, (Rp.bind q).imp fun r _ q v H1 s1 rv => ?_⟩
      split at q
      · rename_i n hn
        split at q
        · rename_i hz
          simp only [Bool.and_eq_true, decide_eq_true_eq, sm] at hz
          exact ⟨n, by rw [sc_sc rv hn], hz.1, hz.2, q _ H1 s1 (wk_rng 0 n.toNat)⟩
        · exact q.elim
      · exact q.elim
    · cases h
  | .r2 a b, X, E, tg, iter, ok, h => by
    simp only [okI] at h
    split at h
    · simp only [Bool.and_eq_true, decide_eq_true_eq] at h
      obtain ⟨⟨⟨rfl, h1⟩, h2⟩, h3⟩ := h
      refine (pi_range2 (gl_of h1).1 (ok.blt _ (by decide)) (pa_cons (sE a _ ok h2).1 (pa_cons (sE b _ ok h3).1 pa_nil (star_cons h3 _ _)) (star_cons h2 _ _)) (by rw [star_cons h2, star_cons h3]; rfl) (star_cons h3 _ _)).imp fun σ H R ⟨H0, M0, M, env, eo, q⟩ => ?_
      simp only [evI] at q
      refine ⟨H0, M0, M, env, eo, (Rp.bind q).imp fun r _ q v H1 s1 rv => ⟨H0, M0, M, env, eo.up s1, ((Rp.bind q).same s1).imp fun r2 _ q u H2 s2 rv2 => ?_⟩⟩
      split at q
      · rename_i i j hi hj
        split at q
        · rename_i hz
          simp only [Bool.and_eq_true, decide_eq_true_eq, sm] at hz
          exact ⟨i, j, by rw [sc_sc rv hi, sc_sc rv2 hj], ⟨hz.1.1, hz.1.2, hz.2.1, hz.2.2⟩, q _ H2 (s1.trans s2) (wk_rng i (j - i).toNat)⟩
        · exact q.elim
      · exact q.elim
    · cases h
  | .r3 a b c, X, E, tg, iter, ok, h => by
    simp only [okI] at h
    split at h
    · simp only [Bool.and_eq_true, decide_eq_true_eq] at h
      obtain ⟨⟨⟨⟨rfl, h1⟩, h2⟩, h3⟩, h4⟩ := h
      refine (pi_range3 (gl_of h1).1 (ok.blt _ (by decide)) (pa_cons (sE a _ ok h2).1 (pa_cons (sE b _ ok h3).1 (pa_cons (sE c _ ok h4).1 pa_nil (star_cons h4 _ _)) (star_cons h3 _ _)) (star_cons h2 _ _)) (star_cons h2 _ _) (back_any _ _ (by rw [star_cons h3, star_cons h4]; rfl))).imp fun σ H R ⟨H0, M0, M, env, eo, q⟩ => ?_
      simp only [evI] at q
      refine ⟨H0, M0, M, env, eo, (Rp.bind q).imp fun r _ q v H1 s1 rv => ⟨H0, M0, M, env, eo.up s1, ((Rp.bind q).same s1).imp fun r2 _ q u H2 s2 rv2 => ⟨H0, M0, M, env, eo.up (s1.trans s2), ((Rp.bind q).same (s1.trans s2)).imp fun r3 _ q u3 H3 s3 rv3 => ?_⟩⟩⟩
      split at q
      · rename_i i j l hi hj hl
        split at q
        · rename_i hz
          simp only [Bool.and_eq_true, decide_eq_true_eq, sm] at hz
          obtain ⟨⟨⟨z1, z2⟩, z3, z4⟩, rfl⟩ := hz
          exact ⟨i, j, -1, (i - j).toNat, by rw [sc_sc rv hi, sc_sc rv2 hj, sc_sc rv3 hl], RgC.neg z1 z2 z3 z4, q _ H3 ((s1.trans s2).trans s3) (wk_rngC i (-1) (i - j).toNat)⟩
        · exact q.elim
      · exact q.elim
    · cases h
  | .zip a b, X, E, tg, iter, ok, h => by
    simp only [okI] at h
    split at h
    · simp only [Bool.and_eq_true, decide_eq_true_eq] at h
      obtain ⟨⟨⟨⟨rfl, ht⟩, h1⟩, h2⟩, h3⟩ := h
      cases tg <;> simp only [isTup, Bool.false_eq_true] at ht
      refine (pi_z2 (gl_of h1).1 (ok.blt _ (by decide)) (pa_cons (sE a _ ok h2).1 (pa_cons (sE b _ ok h3).1 pa_nil (star_cons h3 _ _)) (star_cons h2 _ _)) (star_cons h2 _ _) (back_any _ _ (by rw [star_cons h3]; rfl))).imp fun σ H R ⟨H0, M0, M, env, eo, q⟩ => ?_
      simp only [evI] at q
      refine ⟨H0, M0, M, env, eo, (Rp.bind q).imp fun r _ q v H1 s1 rv => ⟨H0, M0, M, env, eo.up s1, ((Rp.bind q).same s1).imp fun r2 _ q u H2 s2 rv2 => ?_⟩⟩
      split at q
      · exact q.elim
      · rename_i hb
        simp only [Bool.or_eq_true, not_or, Bool.not_eq_true] at hb
        split at q
        · rename_i ds es hd he
          obtain ⟨xs, G1, S1, t1, g1, k1⟩ := rp_src (rv.same s2) hb.1 hd
          obtain ⟨ys, G2, S2, t2, g2, k2⟩ := rp_src rv2 hb.2 he
          exact ⟨v, u, xs, ys, G1, G2, rfl, S1, S2, g1, g2, q _ H2 (s1.trans s2) (wk_z2 (t1.wk fun _ => Lm.orl) (t2.wk fun _ => Lm.orr) (fun H' L2 k => k1 H' L2 ⟨fun a u l e => k.1 a u l.orl e, k.2⟩) (fun H' L2 k => k2 H' L2 ⟨fun a u l e => k.1 a u l.orr e, k.2⟩))⟩
        · exact q.elim
    · cases h
  | .zip3 a b c, X, E, tg, iter, ok, h => by
    simp only [okI] at h
    split at h
    · simp only [Bool.and_eq_true, decide_eq_true_eq] at h
      obtain ⟨⟨⟨⟨⟨rfl, ht⟩, h1⟩, h2⟩, h3⟩, h4⟩ := h
      cases tg <;> simp only [isTup, Bool.false_eq_true] at ht
      refine (pi_z3 (gl_of h1).1 (ok.blt _ (by decide)) (pa_cons (sE a _ ok h2).1 (pa_cons (sE b _ ok h3).1 (pa_cons (sE c _ ok h4).1 pa_nil (star_cons h4 _ _)) (star_cons h3 _ _)) (star_cons h2 _ _)) (star_cons h2 _ _) (back_any _ _ (by rw [star_cons h3, star_cons h4]; rfl))).imp fun σ H R ⟨H0, M0, M, env, eo, q⟩ => ?_
      simp only [evI] at q
      refine ⟨H0, M0, M, env, eo, (Rp.bind q).imp fun r _ q v H1 s1 rv => ⟨H0, M0, M, env, eo.up s1, ((Rp.bind q).same s1).imp fun r2 _ q u H2 s2 rv2 => ⟨H0, M0, M, env, eo.up (s1.trans s2), ((Rp.bind q).same (s1.trans s2)).imp fun r3 _ q u3 H3 s3 rv3 => ?_⟩⟩⟩
      split at q
      · exact q.elim
      · rename_i hb
        simp only [Bool.or_eq_true, not_or, Bool.not_eq_true] at hb
        split at q
        · rename_i ds es fs hd he hf
          obtain ⟨xs, G1, S1, t1, g1, k1⟩ := rp_src (rv.same (s2.trans s3)) hb.1.1 hd
          obtain ⟨ys, G2, S2, t2, g2, k2⟩ := rp_src (rv2.same s3) hb.1.2 he
          obtain ⟨zs, G3, S3, t3, g3, k3⟩ := rp_src rv3 hb.2 hf
          exact ⟨v, u, u3, xs, ys, zs, G1, G2, G3, rfl, S1, S2, S3, g1, g2, g3, q _ H3 ((s1.trans s2).trans s3) (wk_z3 (t1.wk fun _ l => l.orl.orl) (t2.wk fun _ l => l.orr.orl) (t3.wk fun _ => Lm.orr)
            (fun H' L2 k => k1 H' L2 ⟨fun a u l e => k.1 a u l.orl.orl e, k.2⟩) (fun H' L2 k => k2 H' L2 ⟨fun a u l e => k.1 a u l.orr.orl e, k.2⟩) (fun H' L2 k => k3 H' L2 ⟨fun a u l e => k.1 a u l.orr e, k.2⟩))⟩
        · exact q.elim
    · cases h
  | .enum a, X, E, tg, iter, ok, h => by
    simp only [okI] at h
    split at h
    · simp only [Bool.and_eq_true, decide_eq_true_eq] at h
      obtain ⟨⟨⟨rfl, ht⟩, h1⟩, h2⟩ := h
      cases tg <;> simp only [isTup, Bool.false_eq_true] at ht
      refine (pi_en (gl_of h1).1 (ok.blt _ (by decide)) (pa_cons (sE a _ ok h2).1 pa_nil (star_cons h2 _ _)) (star_cons h2 _ _)).imp fun σ H R ⟨H0, M0, M, env, eo, q⟩ => ?_
      simp only [evI] at q
      refine ⟨H0, M0, M, env, eo, (Rp.bind q).imp fun r _ q v H1 s1 rv => ?_⟩
      split at q
      · exact q.elim
      · rename_i hb
        have hb : isBo r = false := by simpa using hb
        split at q
        · rename_i ds hd
          have tp := rv_top rv hb
          have c := rv.cn
          rw [hd] at c
          cases c with
          | lst r' s' => exact .inl ⟨_, _, rfl, r', q _ H1 s1 (wk_en s' fun H' L2 k => k.rd (tp _ rfl ⟨_, hd⟩) r')⟩
        · rename_i z hd
          have c := rv.cn
          rw [hd] at c
          cases c
          refine .inr ⟨z, rfl, q _ H1 s1 (wk_en ?_ fun _ _ _ => trivial)⟩
          unfold signsV
          generalize z.cps.toList = l
          induction l with
          | nil => exact .nil
          | cons c l ih => exact .cons (.str _) ih
        · exact q.elim
    · cases h
  | .rev a, X, E, tg, iter, ok, h => by
    simp only [okI] at h
    split at h
    · simp only [Bool.and_eq_true, decide_eq_true_eq] at h
      obtain ⟨⟨rfl, h1⟩, h2⟩ := h
      refine (pi_reversed (gl_of h1).1 (ok.blt _ (by decide)) (pa_cons (sE a _ ok h2).1 pa_nil (star_cons h2 _ _)) (star_cons h2 _ _)).imp fun σ H R ⟨H0, M0, M, env, eo, q⟩ => ?_
      simp only [evI] at q
      refine ⟨H0, M0, M, env, eo, (Rp.bind q).imp fun r _ q v H1 s1 rv => ?_⟩
      split at q
      · exact q.elim
      · rename_i hb
        have hb : isBo r = false := by simpa using hb
        split at q
        · rename_i ds hd
          have tp := rv_top rv hb
          have c := rv.cn
          rw [hd] at c
          cases c with
          | lst r' s' => exact ⟨_, _, rfl, .inl r', q _ H1 s1 (wk_rev r' (tp _ rfl ⟨_, hd⟩) s')⟩
        · exact q.elim
    · cases h
end
end
end En
set_option Elab.async false
set_option linter.all false
set_option maxRecDepth 100000
set_option maxHeartbeats 4000000
namespace En
open PySem PySem.Spec PyProof.Rows L2
theorem sz (n : Nat) (h : n ≤ 16777216) : n ≤ sizeLine := by rw [sizeLine_eq]; exact h
theorem slt {n : Nat} (h : n < 16777216) : n < sizeLine := by rw [sizeLine_eq]; exact h
theorem attr_name {x f : Str} {p : Pos} {env : Env} : attributeBase (.Name x p) f env (eval (.Name x p) env) = eval (.Name x p) env := rfl

/-! ### what a caught thing is -/
section
variable {X : Cx} {a D : Addr} {oe : Obj}
theorem inst_at {pins : List (Addr × Obj)} {σ : L2.St} {H : Hp} {s : Shared} (I : Inv X pins σ H s) (hp : (a, oe) ∈ X.pn) (hz : Zc (.ref D) none oe) (hf : ∃ vs, oe.data = .fields vs) : PySem.W.InstAt s.heap a oe D none := by
  obtain ⟨hget, _⟩ := I.pin (a, oe) (List.mem_append.mpr (.inl hp))
  obtain ⟨vs, hv⟩ := hf
  obtain ⟨oc, od, oda, osl⟩ := oe
  obtain ⟨h1, h2⟩ := hz
  dsimp only at h1 h2 hv
  subst h1 h2 hv
  exact ⟨hget, rfl, rfl, trivial⟩
theorem call_isX (C : ExcC X.K D) (hp : (a, oe) ∈ X.pn) (hz : Zc (.ref D) none oe) (hf : ∃ vs, oe.data = .fields vs) : CallR X (.builtin "isinstance") (rIsE X.K D a) := by
  intro pins s σ H xs us Q I r h
  obtain ⟨c, cv, b, rfl, hcv, e, q⟩ := h
  obtain ⟨u1, u2, rfl, r1, r2⟩ := vals2 r
  cases (show u1 = Value.ref a from r1)
  obtain rfl := hcv _ r2
  exact PySem.W.kia_one (PySem.W.handS_kitx_exc C.hg C.hk C.hs C.hd C.ha C.hn C.ht C.hm) I.kIn (inst_at I hp hz hf) e (fun z => nomatch z) fun tk => ⟨.bl b, H, I.kept (t' := tk) fun _ _ z => z, rfl, q⟩
def rIsXT (K : PySem.W.Frag) (D a : Addr) : List V → Hp → VK → Prop := fun xs H Q => ∃ (tp : Addr) (cs : List V) (us : List Value) (b : Bool), xs = [.ref a, .ref tp] ∧ H tp = some (.tup cs) ∧ (∀ ws, Vals cs ws → ws = us) ∧ PySem.W.kitAny K (.ref D) us = some b ∧ Q (.bl b) H
theorem call_isXT (C : ExcC X.K D) (hp : (a, oe) ∈ X.pn) (hz : Zc (.ref D) none oe) (hf : ∃ vs, oe.data = .fields vs) : CallR X (.builtin "isinstance") (rIsXT X.K D a) := by
  intro pins s σ H xs us Q I r h
  obtain ⟨tp, cs, ws, b, rfl, hT, hcs, e, q⟩ := h
  obtain ⟨u1, u2, rfl, r1, r2⟩ := vals2 r
  cases (show u1 = Value.ref a from r1)
  cases (show u2 = Value.ref tp from r2)
  obtain ⟨_, its, rv, o, h1, h2, n, h3⟩ := (show ObjOk X.prog X.w H s.heap tp (.tup cs) from I.hok tp _ hT)
  obtain rfl := hcs _ rv
  obtain ⟨oc, od, dt, sl⟩ := o
  simp only at h2 h3
  subst h2 h3
  exact PySem.W.kia_tup (PySem.W.handS_kitx_exc C.hg C.hk C.hs C.hd C.ha C.hn C.ht C.hm) I.kIn (inst_at I hp hz hf) h1 e (fun z => nomatch z) fun tk => ⟨.bl b, H, I.tok tk, rfl, q⟩
end
def okCs (sc : Scope) : List Str → List Expr → Bool
  | [], es => match es with | [] => true | _ => false
  | c :: cs, es => match es with | .Name y _ :: r => decide (y = c) && glOk sc c && decide (c ≠ "__name__") && okCs sc cs r | _ => false
mutual
def okWT (N : List Str) (sc : Scope) (i : Nat) : WT → Expr → Bool
  | .is c, e => match e with | .Call (.Name f _) [.Name x _, .Name y _] [] _ => decide (f = "isinstance") && glOk sc f && slotOk N sc i x && decide (y = c) && glOk sc c && decide (c ≠ "__name__") | _ => false
  | .tup cs, e => match e with | .Call (.Name f _) [.Name x _, .Tuple es _ _] [] _ => decide (f = "isinstance") && glOk sc f && slotOk N sc i x && okCs sc cs es && decide (cs.length ≤ 16777216) | _ => false
  | .or ts, e => match e with | .BoolOp .Or es _ => okWTs N sc i ts es | _ => false
  | .not t, e => match e with | .UnaryOp .Not a _ => okWT N sc i t a | _ => false
def okWTs (N : List Str) (sc : Scope) (i : Nat) : WTs → List Expr → Bool
  | .one t, es => match es with | [e] => okWT N sc i t e | _ => false
  | .cons t ts, es => match es with | e :: e2 :: r => okWT N sc i t e && okWTs N sc i ts (e2 :: r) | _ => false
end
def evCs (val : Str → Option Bool) : List Str → Option Bool
  | [] => some false
  | c :: cs => match val c, evCs val cs with
    | some b, some r => some (b || r)
    | _, _ => none
mutual
def evWT (val : Str → Option Bool) : WT → Option Bool
  | .is c => val c
  | .tup cs => evCs val cs
  | .or ts => evWTs val ts
  | .not t => (evWT val t).map (!·)
def evWTs (val : Str → Option Bool) : WTs → Option Bool
  | .one t => evWT val t
  | .cons t ts => match evWT val t with
    | some true => some true
    | some false => evWTs val ts
    | none => none
end
/-- what the classes' names tell of D -/
def ValOk (mg : Str → Option Value) (K : PySem.W.Frag) (D : Addr) (val : Str → Option Bool) : Prop :=
  ∀ c b, val c = some b → ∃ (v : V) (cv : Value), (mg c = some cv ∨ (mg c = none ∧ bootBuiltins c = some cv)) ∧ RelV v cv ∧ (∀ u, RelV v u → u = cv) ∧ PySem.W.kitOne K (.ref D) cv = some b
section
variable {X : Cx} {a D : Addr} {oe : Obj} {val : Str → Option Bool} {i : Nat}
theorem pe_cls {c : Str} {p : Pos} {v : V} {cv : Value} (h : X.mg c = some cv ∨ (X.mg c = none ∧ bootBuiltins c = some cv)) (r : RelV v cv) (hg : glOk X.env.scope c = true) (hn : c ≠ "__name__") : PE X (.Name c p) (L2.tC v) := by
  obtain ⟨g1, g2⟩ := gl_of hg
  rcases h with h | ⟨h1, h2⟩
  · exact pe_glob g1 h r g2
  · exact pe_bltn g1 h1 h2 r hn g2
theorem cs_ok (V1 : ValOk X.mg X.K D val) : ∀ (cs : List Str) (es : List Expr) (b : Bool), okCs X.env.scope cs es = true → evCs val cs = some b →
    ∃ (vs : List V) (us : List Value), PA X es (fun _ H Q => Q vs H) ∧ vs.length = cs.length ∧ (∀ ws, Vals vs ws → ws = us) ∧ PySem.W.kitAny X.K (.ref D) us = some b
  | [], es, b, h, e => by
    simp only [okCs] at h
    split at h
    · cases e
      exact ⟨[], [], pa_nil, rfl, fun ws r => by cases r; rfl, rfl⟩
    · cases h
  | c :: cs, es, b, h, e => by
    simp only [okCs] at h
    split at h
    · simp only [Bool.and_eq_true, decide_eq_true_eq] at h
      obtain ⟨⟨⟨rfl, h1⟩, h2⟩, h3⟩ := h
      unfold evCs at e
      split at e
      · rename_i b1 b2 e1 e2
        cases e
        obtain ⟨v, cv, hm, r, hu, hk⟩ := V1 _ _ e1
        obtain ⟨vs, us, p, hl, hus, hks⟩ := cs_ok V1 cs _ b2 h3 e2
        refine ⟨v :: vs, cv :: us, pa_cons (pe_cls hm r h1 h2) p, by simp [hl], fun ws r => ?_, ?_⟩
        · cases r with
          | cons r1 r2 => rw [hu _ r1, hus _ r2]
        · exact L2.kitAny_cons hk (fun z => by rw [z]; simpa using hks) (fun z => by rw [z]; rfl)
      · cases e
    · cases h
def tWT (val : Str → Option Bool) (i : Nat) (a : Addr) (t : WT) : TT := fun σ H Q => σ[i]? = some (some (.ref a)) ∧ ∃ b, evWT val t = some b ∧ ∀ H', Same H H' → Q b H'
def tWTs (val : Str → Option Bool) (i : Nat) (a : Addr) (t : WTs) : TT := fun σ H Q => σ[i]? = some (some (.ref a)) ∧ ∃ b, evWTs val t = some b ∧ ∀ H', Same H H' → Q b H'
variable (hi : X.mg "isinstance" = none) (C : ExcC X.K D) (hp : (a, oe) ∈ X.pn) (hz : Zc (.ref D) none oe) (hf : ∃ vs, oe.data = .fields vs) (V1 : ValOk X.mg X.K D val)
include hi C hp hz hf V1
mutual
theorem wt_ok : ∀ (t : WT) (e : Expr), okWT X.N X.env.scope i t e = true → PT X e (tWT val i a t)
  | .is c, e, h => by
    simp only [okWT] at h
    split at h
    · simp only [Bool.and_eq_true, decide_eq_true_eq] at h
      obtain ⟨⟨⟨⟨⟨rfl, h1⟩, h2⟩, rfl⟩, h3⟩, h4⟩ := h
      refine ⟨fun pins s σ H Q I ⟨hs, b, hb, q⟩ => ?_⟩
      obtain ⟨v, cv, hm, r, hu, hk⟩ := V1 _ _ hb
      refine PT.run (pt_val (pe_callB (call_isX C hp hz hf) (gl_of h1).1 hi (by decide +kernel) (pa_cons (pe_v h2) (pa_cons (pe_cls hm r h3 h4) pa_nil)))) pins s σ H Q I ?_
      refine ⟨.ref a, hs, v, cv, b, rfl, hu, hk, b, rfl, q H fun _ _ z => z⟩
    · cases h
  | .tup cs, e, h => by
    simp only [okWT] at h
    split at h
    · simp only [Bool.and_eq_true, decide_eq_true_eq] at h
      obtain ⟨⟨⟨⟨rfl, h1⟩, h2⟩, h3⟩, h4⟩ := h
      refine ⟨fun pins s σ H Q I ⟨hs, b, hb, q⟩ => ?_⟩
      obtain ⟨vs, us, p, hl, hu, hk⟩ := cs_ok V1 cs _ b h3 hb
      refine PT.run (pt_val (pe_callB (call_isXT C hp hz hf) (gl_of h1).1 hi (by decide +kernel) (pa_cons (pe_v h2) (pa_cons (pe_tup p) pa_nil)))) pins s σ H Q I ?_
      refine ⟨.ref a, hs, sz _ (by rw [hl]; exact h4), fun tp htp => ?_⟩
      exact ⟨tp, vs, us, b, rfl, upd_same, hu, hk, b, rfl, q _ (same_new htp)⟩
    · cases h
  | .or ts, e, h => by
    simp only [okWT] at h
    split at h
    · exact (wts_ok ts _ _ h).pt
    · cases h
  | .not t, e, h => by
    simp only [okWT] at h
    split at h
    · refine PT.imp (pt_not (wt_ok t _ h)) fun σ H Q ⟨hs, b, hb, q⟩ => ?_
      unfold evWT at hb
      cases e1 : evWT val t with
      | none => rw [e1] at hb; cases hb
      | some c =>
        rw [e1] at hb
        cases hb
        exact ⟨hs, c, e1, q⟩
    · cases h
theorem wts_ok : ∀ (ts : WTs) (es : List Expr) (p : Pos), okWTs X.N X.env.scope i ts es = true → PW X (.BoolOp .Or es p) (tWTs val i a ts)
  | .one t, es, p, h => by
    simp only [okWTs] at h
    split at h
    · exact (pw_or1 (wt_ok t _ h)).imp fun σ H Q ⟨hs, b, hb, q⟩ => ⟨hs, b, hb, q⟩
    · cases h
  | .cons t ts, es, p, h => by
    simp only [okWTs] at h
    split at h
    · simp only [Bool.and_eq_true] at h
      refine (pw_or (wt_ok t _ h.1) (wts_ok ts _ p h.2)).imp fun σ H Q ⟨hs, b, hb, q⟩ => ?_
      unfold evWTs at hb
      split at hb
      · rename_i e1
        cases hb
        exact ⟨hs, true, e1, fun H' sm => q H' sm⟩
      · rename_i e1
        refine ⟨hs, false, e1, fun H' sm => ?_⟩
        exact ⟨hs, b, hb, fun H2 sm2 => q H2 (sm.trans sm2)⟩
      · cases hb
    · cases h
end
end
/-! ### a def that tells in words what a caught thing is -/
def okIfs (N : List Str) (sc : Scope) (i w : Nat) : List (WT × Str) → List Stmt → Bool
  | [], ss => match ss with | [.Return (some (.Call (.Attribute (.Constant (.str z) _ _) m ap) [.Name x _] [] cp)) _] => decide (z = (⟨#[]⟩ : Str)) && decide (m = "join") && (ap.endLine == cp.line) && slotOk N sc w x | _ => false
  | (t, u) :: l, ss => match ss with | .If c [.Expr (.Call (.Attribute (.Name x _) m ap) [.Constant (.str y) _ _] [] cp) _] [] _ :: r => okWT N sc i t c && slotOk N sc w x && decide (m = "append") && decide (y = u) && (ap.endLine == cp.line) && okIfs N sc i w l r | _ => false
def evWd (val : Str → Option Bool) : List (WT × Str) → Option (List Str)
  | [] => some []
  | (t, u) :: l => match evWT val t, evWd val l with
    | some b, some r => some (if b then u :: r else r)
    | _, _ => none
section
variable {X : Cx} {a D : Addr} {oe : Obj} {val : Str → Option Bool} {i w : Nat}
variable (hi : X.mg "isinstance" = none) (C : ExcC X.K D) (hp : (a, oe) ∈ X.pn) (hz : Zc (.ref D) none oe) (hf : ∃ vs, oe.data = .fields vs) (V1 : ValOk X.mg X.K D val)
include hi C hp hz hf V1
theorem ifs_ok : ∀ (l : List (WT × Str)) (ss : List Stmt), okIfs X.N X.env.scope i w l ss = true → PSs X ss (fun D σ H => σ[i]? = some (some (.ref a)) ∧ ∃ (H0 : Hp) (p : Addr) (acc out : List Str), Same H0 H ∧ H0 p = none ∧ σ[w]? = some (some (.ref p)) ∧ H p = some (.lst (acc.map V.str)) ∧ evWd val l = some out ∧
    acc.length + out.length < 1000 ∧ ((acc ++ out).map (·.length)).sum ≤ 16777216 ∧ ∀ H', Same H0 H' → D.rt (.str (Txt.join ⟨#[]⟩ (acc ++ out))) H')
  | [], ss, h => by
    simp only [okIfs] at h
    split at h
    · simp only [Bool.and_eq_true, decide_eq_true_eq] at h
      obtain ⟨⟨⟨rfl, rfl⟩, h1⟩, h2⟩ := h
      refine PSs.imp (pss_cons (ps_ret (pe_bm PySem.F.plainAttrs_str PySem.F.slot_str_join PySem.F.type_str_join mt_join pe_str (pa_cons (pe_v h2) pa_nil) rfl rfl h1 rfl rfl)) pss_nil) fun Dn σ H ⟨hs, H0, p, acc, out, sm0, hp0, hw, hpp, he, hl, hsum, q⟩ => ?_
      cases he
      rw [List.append_nil] at hsum q
      refine ⟨rfl, .ref p, hw, ⟨#[]⟩, p, acc, rfl, rfl, .inl (.inl (.inl hpp)), ?_, q H sm0⟩
      have e0 : (⟨#[]⟩ : Str).length = 0 := rfl
      rw [e0]
      omega
    · cases h
  | (t, u) :: l, ss, h => by
    simp only [okIfs] at h
    split at h
    · simp only [Bool.and_eq_true, decide_eq_true_eq] at h
      obtain ⟨⟨⟨⟨⟨h1, h2⟩, rfl⟩, rfl⟩, h3⟩, h4⟩ := h
      refine PSs.imp (pss_cons (ps_if (wt_ok hi C hp hz hf V1 t _ h1) (pss_cons (ps_expr (pe_bm PySem.F.plainAttrs_list PySem.F.slot_list_append PySem.F.type_list_append mt_append (pe_v h2) (pa_cons pe_str pa_nil) attr_name rfl h3 rfl rfl) rfl) pss_nil) pss_nil) (ifs_ok l _ h4)) fun Dn σ H ⟨hs, H0, p, acc, out, sm0, hp0, hw, hpp, he, hl, hsum, q⟩ => ?_
      unfold evWd at he
      split at he
      · rename_i b r e1 e2
        cases he
        refine ⟨hs, b, e1, fun H' sm => ?_⟩
        have hp' := sm _ _ hpp
        cases b with
        | false => exact ⟨hs, H0, p, acc, r, sm0.trans sm, hp0, hw, hp', e2, hl, hsum, q⟩
        | true =>
          simp only [if_true] at hl hsum q
          refine ⟨.ref p, hw, .inl ⟨rfl, _, .inl (.inl hp')⟩, p, acc.map V.str, .str _, rfl, rfl, hp', by rw [List.length_map]; exact slt (by simp at hl; omega), ?_⟩
          refine ⟨hs, H0, p, acc ++ [_], r, fun b o hb => by rw [upd_ne (fun zz => by rw [zz, hp0] at hb; cases hb)]; exact sm _ _ (sm0 _ _ hb), hp0, hw, by rw [List.map_append]; exact upd_same, e2, by simp at hl ⊢; omega, by rw [List.append_assoc]; exact hsum, fun H2 sm2 => by rw [List.append_assoc]; exact q H2 sm2⟩
      · cases he
    · cases h
theorem word_body {sc : Scope} (hN : X.N.Nodup) (hw : w < X.N.length) (l : List (WT × Str)) (hiw : i ≠ w) : ∀ (ss : List Stmt), (match ss with | .Assign [.Name x p] (.List [] _) _ :: r => tgOk X.N X.env.scope w (.Name x p) && X.fn x && okIfs X.N X.env.scope i w l r | _ => false) = true →
    PSs X ss (fun D σ H => σ.length = X.N.length ∧ σ[i]? = some (some (.ref a)) ∧ ∃ (out : List Str), evWd val l = some out ∧ out.length < 1000 ∧ (out.map (·.length)).sum ≤ 16777216 ∧ ∀ H', Same H H' → D.rt (.str (Txt.join ⟨#[]⟩ out)) H') := by
  intro ss h
  split at h
  · rename_i x p pos pos2 r
    simp only [Bool.and_eq_true] at h
    obtain ⟨⟨h1, h2⟩, h3⟩ := h
    simp only [tgOk, Bool.and_eq_true, decide_eq_true_eq] at h1
    obtain ⟨hNw, hk⟩ := h1
    have hloc : Loc X.env.scope x := by
      unfold kL at hk
      split at hk
      · rename_i q; exact .inl q
      · rename_i q; exact .inr q
      · cases hk
    refine PSs.imp (pss_cons (ps_set hN hNw hloc (pe_lst pa_nil) rfl (.inl h2)) (ifs_ok hi C hp hz hf V1 l _ h3)) fun Dn σ H ⟨hlen, hs, out, he, hl, hsum, q⟩ => ?_
    refine ⟨sz _ (by decide), fun p hpn => ?_⟩
    refine ⟨by rw [List.getElem?_set_ne (fun z => hiw z.symm)]; exact hs, H, p, [], out, same_new hpn, hpn, by rw [List.getElem?_set_self (by omega)], upd_same, he, by simpa using hl, by simpa using hsum, by simpa using q⟩
  · cases h
end
/-! ### a def called within an except suite, with the thing that is handled -/
open L2H in
structure FnS (P : Program) (w : World) (K : PySem.W.Frag) (mg : Str → Option Value) (base : Heap) (CX : CXT) (k : Nat) (f : Addr) (fd : FuncData) (ps : List Str) (D : Addr) (z : Str) : Prop where
  len : ps.length = 1
  run : ∀ (A : Around) (outer : List Env) (s : Shared) (H : Hp) (args : Args) (Q : VK) (E : XK) (p : Addr × Obj), RoomH k A → PinOk outer H s p → Zc (.ref D) none p.2 → (∃ vs, p.2.data = .fields vs) → Env0 P w K mg base A outer s H → BindsTo s fd args (ps.zip [.ref p.1]) → (∀ H', Same H H' → Q (.str z) H') →
    codeAny (model P w) A (.call (.ref f) args) (CR CX outer P w H s Q E) s
open L2H in
theorem fn_ofS {CX : CXT} {P : Program} {w : World} {K : PySem.W.Frag} {mg : Str → Option Value} {base : Heap} {k : Nat} {f : Addr} {name qual : Str} {params : Arguments} {body : List Stmt} {scope : Scope} {dV kV doc pm cdv ct oc : Value} {an od : Option Addr}
    {osl : Array (Option Value)} {N ps : List Str} {D : Addr} {z : Str} (lk : K.lookup f = some ⟨oc, od, .func (PySem.W.fnOf name qual params body scope dV kV doc pm an cdv ct), osl⟩) (hcd : PySem.W.codeIn K cdv qual = true) (S : FnScope N ps scope) (hl1 : ps.length = 1)
    (hbody : ∀ (A : Around) (outer : List Env) (s : Shared) (H : Hp) (Q : VK) (E : XK) (p : Addr × Obj), RoomH k (A.deeper (envOfC qual scope s.heap.objs.size f cdv)) → Zc (.ref D) none p.2 → (∃ vs, p.2.data = .fields vs) → (∀ H', Same H H' → Q (.str z) H') →
      ∃ t, PSs (cxH CX P w K mg base N qual scope f cdv A outer s H E p) body t ∧ t { nx := fun _ H' => Q .non H', rt := Q } (L2.start N [.ref p.1]) H) :
    FnS P w K mg base CX (k + 1) f (PySem.W.fnOf name qual params body scope dV kV doc pm an cdv ct) ps D z := by
  refine ⟨hl1, fun A outer s H args Q E p hr hpin hz hf e0 hb hsp => ?_⟩
  have r : Vals [.ref p.1] [.ref p.1] := .cons rfl .nil
  have hl : ([.ref p.1] : List V).length = ps.length := by rw [hl1]; rfl
  have KX : K.In s.heap := e0.mod.kin.keeps fun b o e => (e0.bs b o e).1
  have lim : s.heap.NoLimit := e0.mod.nolimit.keeps fun b o e => (e0.bs b o e).1
  have hkind : ∀ y ∈ ps.zip [Value.ref p.1], scope.names.lookup y.1 = some .local ∨ (scope.names.lookup y.1 = some .cell ∧ ((cellsFrom (s.heap.objs.size + 1) scope.names []).lookup y.1).isSome = true) := fun ⟨n, v⟩ hy => by
    rcases S.par n (List.of_mem_zip hy).1 with q | q
    · exact .inl q
    · exact .inr ⟨q, PySem.W.cellsFrom_some _ _ _ (.inl q)⟩
  refine codeAny_call_function hr.depth (KX _ _ lk) rfl S.co S.gen rfl (PySem.W.codeRec_of KX hcd) (hb _ _ _ _ ?_)
  refine wpAny_newFunctionEnv_cells S.kind hkind fun env he s1 x => ?_
  subst he
  refine ⟨lim.keeps x.toInCall.keep, codeAny_func ?_⟩
  obtain ⟨t, ht, hq⟩ := hbody A outer s H Q E p (hr.deeper _) hz hf hsp
  have I : Inv (cxH CX P w K mg base N qual scope f cdv A outer s H E p) [] (L2.start N [.ref p.1]) H s1 := inv_startH S hpin e0 hl r x
  refine wpAny_mono (ht.run [] s1 (L2.start N [.ref p.1]) H _ I hq) (fun fl s' hs => ?_) fun e s' hs => hs
  have fin : ∀ {σ' : L2.St} {H' : Hp} {v : V} {u : Value}, Inv (cxH CX P w K mg base N qual scope f cdv A outer s H E p) [] σ' H' s' → RelV v u → Q v H' → CE outer P w H s Q u s' :=
    fun {σ' H' v u} J rv q => ⟨v, H', J.os, J.bare, J.base, J.hok, rv, q⟩
  cases fl with
  | ret u =>
    obtain ⟨v, σ', H', J, rv, q⟩ := hs
    exact fin J rv q
  | next =>
    obtain ⟨σ', H', J, q⟩ := hs
    exact fin (v := V.non) (u := Value.none) J rfl q
  | brk =>
    obtain ⟨_, _, _, q⟩ := hs
    exact False.elim q
  | cont =>
    obtain ⟨_, _, _, q⟩ := hs
    exact False.elim q
section
open L2H
variable {X : Cx} {CX : CXT} {k : Nat} {f : Addr} {fd : FuncData} {ps : List Str} {D : Addr} {z : Str} {x y : Str} {p : Addr × Obj} {q q2 pos : Pos} {i : Nat}
/-- f(e), e the thing that the suite handles -/
theorem pe_callX (F : FnS X.prog X.w X.K X.mg X.base CX k f fd ps D z) (hr : RoomH k X.A) (hp : p ∈ X.pn) (hz : Zc (.ref D) none p.2) (hf : ∃ vs, p.2.data = .fields vs) (hg : Gl X x) (hdb : (x == ("__debug__" : Str)) = false) (hm : X.mg x = some (.ref f)) (hk : PySem.W.keepIn X.K (.ref f) = true) (hb : Binds X.K fd ps []) (hx : ∀ σ, PassesAt CX X σ (fun _ _ _ => False)) (hs : slotOk X.N X.env.scope i y = true) :
    PE X (.Call (.Name x q) [.Name y q2] [] pos) (fun σ H Q => σ[i]? = some (some (.ref p.1)) ∧ ∀ H', Same H H' → Q (.str z) H') := by
  refine ⟨fun pins s σ H Q I ⟨h1, h2⟩ => ?_⟩
  refine wpAny_Call_Name_kw (ld_glob I hg hm ?_ hdb)
  refine PySem.W.callWith_K (h₀ := X.base) I.ok.mod.kin hk (thn ((pa_cons (pe_v hs) pa_nil).run pos pins s σ H (fun vs H1 => vs = [.ref p.1] ∧ ∀ H', Same H1 H' → Q (.str z) H') I ⟨.ref p.1, h1, rfl, h2⟩) fun us s1 ⟨vs, H1, I1, r, e, q1⟩ => ⟨I1.kIn, ?_⟩) rfl rfl
  subst e
  obtain rfl := Vals.ref1 r
  have hl : ([Value.ref p.1] : List Value).length = ps.length := by rw [F.len]; rfl
  have b := hb s1 [.ref p.1] I1.kIn (by rw [List.append_nil]; exact hl)
  rw [List.append_nil] at b
  have P1 := I1.pin p (List.mem_append_left _ hp)
  have hpin : PinOk X.stack H1 s1 p := ⟨P1.1, P1.2.1, fun hm => (List.mem_cons.mp (I1.stkSub p.1 hm)).elim P1.2.2.1 P1.2.2.2.1, P1.2.2.2.2⟩
  refine wpAny_call (codeAny_mono (F.run X.A X.stack s1 H1 ⟨[.ref p.1], []⟩ Q (fun _ _ _ => False) p hr hpin hz hf I1.env0 b q1) fun r s' hq => ?_)
  cases r with
  | error e => exact hx σ pins H1 s1 e s' I1 hq
  | ok fl =>
    cases fl with
    | ret u => exact I1.after hq
    | next => exact False.elim hq
    | brk => exact False.elim hq
    | cont => exact False.elim hq
end
/-! ### a word def, by its text -/
def okWd (N : List Str) (sc : Scope) (i w : Nat) (l : List (WT × Str)) (ss : List Stmt) : Bool := match ss with
  | .Assign [.Name x p] (.List [] _) _ :: r => tgOk N sc w (.Name x p) && okIfs N sc i w l r
  | _ => false
section
variable {P : Program} {w : World} {K : PySem.W.Frag} {mg : Str → Option Value} {base : Heap}
open L2H in
theorem word_fn {x qual : Str} {st : Stmt} {fa : Addr} {fd : FuncData} {N ps : List Str} {k : Nat} {D : Addr} {val : Str → Option Bool} {l : List (WT × Str)} {out : List Str} (F : Fun K x qual st fa fd) (S : FnScope N ps (defScope st)) (hl1 : ps.length = 1) (hl2 : N.length = 2)
    (hc : okWd N (defScope st) 0 1 l (defBody st) = true) (hi : mg "isinstance" = none) (C : ExcC K D) (V1 : ValOk mg K D val) (he : evWd val l = some out) (hn : out.length < 1000) (hsum : (out.map (·.length)).sum ≤ 16777216) :
    FnS P w K mg base (L2.CX P w) (k + 1) fa fd ps D (Txt.join ⟨#[]⟩ out) := by
  obtain ⟨oc, od, kV, doc, pm, an, cdv, ct, osl, rfl, lk, hcd⟩ := F.ex
  refine fn_ofS lk hcd S hl1 fun A outer s H Q E p hr hz hf q => ?_
  refine ⟨_, word_body (X := cxH (L2.CX P w) P w K mg base N qual (defScope st) fa cdv A outer s H E p) (a := p.1) (oe := p.2) (i := 0) (w := 1) (sc := defScope st) hi C (List.mem_singleton.mpr rfl) hz hf V1 S.nd (by show 1 < N.length; omega) l (by decide) (defBody st) ?_, ?_, rfl, out, he, hn, hsum, q⟩
  · unfold okWd at hc
    split at hc
    · simp only [Bool.and_eq_true] at hc ⊢
      exact ⟨⟨hc.1, rfl⟩, hc.2⟩
    · cases hc
  · unfold L2.start
    show _ = N.length
    simp [hl2]
end
/-! ### what may be refused, what is asked of it -/
/-- rz: classes that may be raised; xs: that may be caught; cl: classes that an except clause names; val x c: is a thing of class x one of c; cat: does except c catch it; wd x f: what f tells of it -/
structure Ex where
  rz : List Str
  xs : List Str
  cl : List Str
  val : Str → Str → Option Bool
  cat : Str → Str → Option Bool
  wd : Str → Str → Option Str
def exL (l : List Str) : Ex := ⟨l, [], [], fun _ _ => none, fun _ _ => none, fun _ _ => none⟩
structure XFact (ex : Ex) (mg : Str → Option Value) (P : Program) (w : World) (K : PySem.W.Frag) (base : Heap) (x : Str) (C : Addr) : Prop where
  c : ExcC K C
  v : ValOk mg K C (ex.val x)
  t : ∀ T b, ex.cat x T = some b → ∀ cT, mg T = some (.ref cT) → PySem.W.exmOne K (.ref C) (.ref cT) = some b
  w : ∀ f z, ex.wd x f = some z → ∃ fw fdw psw, FnS P w K mg base (L2.CX P w) 1 fw fdw psw C z ∧ mg f = some (.ref fw) ∧ PySem.W.keepIn K (.ref fw) = true ∧ Binds K fdw psw []
def okT (N : List Str) (sc : Scope) : TB → Stmt → Bool
  | .ex f es, s => match s with | .Expr v _ => okE N sc (.call f es) v | _ => false
  | .st i _ f es, s => match s with | .Assign [.Name x p] v _ => tgOk N sc i (.Name x p) && okE N sc (.call f es) v | _ => false
  | .if_ c a b, s => match s with | .If t [x] [y] _ => okE N sc c t && okT N sc a x && okT N sc b y | _ => false
def okX (N : List Str) (sc : Scope) (n : Nat) : List XSt → List Stmt → Bool
  | [], ss => match ss with | [] => true | _ => false
  | .set i z :: l, ss => match ss with | .Assign [.Name x p] (.Constant (.str y) _ _) _ :: r => tgOk N sc i (.Name x p) && decide (i ≠ n) && decide (y = z) && okX N sc n l r | _ => false
  | .ifs t i z :: l, ss => match ss with | .If c [.Assign [.Name x p] (.Constant (.str y) _ _) _] [] _ :: r => okWT N sc n t c && tgOk N sc i (.Name x p) && decide (i ≠ n) && decide (y = z) && okX N sc n l r | _ => false
  | .word i f :: l, ss => match ss with | .Assign [.Name x p] (.Call (.Name g _) [.Name y _] [] _) _ :: r => tgOk N sc i (.Name x p) && decide (i ≠ n) && decide (g = f) && glOk sc f && slotOk N sc n y && okX N sc n l r | _ => false
def evX (val : Str → Option Bool) (wd : Str → Option Str) : List XSt → Option (List (Nat × Str))
  | [] => some []
  | .set i z :: l => match evX val wd l with
    | some r => some ((i, z) :: r)
    | none => none
  | .ifs t i z :: l => match evWT val t, evX val wd l with
    | some b, some r => some (if b then (i, z) :: r else r)
    | _, _ => none
  | .word i f :: l => match wd f, evX val wd l with
    | some z, some r => some ((i, z) :: r)
    | _, _ => none
def okTry (ex : Ex) (N : List Str) (sc : Scope) (b : TB) (tb : List (Str × List (Nat × Str))) (n : Nat) (sx : List XSt) : Stmt → Bool
  | .Try [sb] [.ExceptHandler (some (.Name T _)) (some nm) (s0 :: ss) _] [] [] _ => okT N sc b sb && okX N sc n sx (s0 :: ss) && decide (N[n]? = some nm) && decide (sc.names.lookup nm = some .local) && glOk sc T && decide (T ∈ ex.cl) &&
      tb.all fun p => decide (p.1 ∈ ex.xs) && decide (ex.cat p.1 T = some true) && decide (evX (ex.val p.1) (ex.wd p.1) sx = some p.2)
  | _ => false
def setV : List (Nat × Str) → L2.St → L2.St
  | [], σ => σ
  | p :: l, σ => setV l (σ.set p.1 (some (.str p.2)))
theorem tg_loc {N : List Str} {sc : Scope} {i : Nat} {x : Str} {p : Pos} (h : tgOk N sc i (.Name x p) = true) : N[i]? = some x ∧ Loc sc x := by
  simp only [tgOk, Bool.and_eq_true, decide_eq_true_eq] at h
  obtain ⟨hN, hk⟩ := h
  refine ⟨hN, ?_⟩
  unfold kL at hk
  split at hk
  · rename_i q; exact .inl q
  · rename_i q; exact .inr q
  · cases hk
section
variable {X : Cx} {a D : Addr} {oe : Obj} {val : Str → Option Bool} {wd : Str → Option Str} {n : Nat}
variable (hi : X.mg "isinstance" = none) (C : ExcC X.K D) (hp : (a, oe) ∈ X.pn) (hz : Zc (.ref D) none oe) (hf : ∃ vs, oe.data = .fields vs) (V1 : ValOk X.mg X.K D val)
  (hr : L2H.RoomH 1 X.A) (hW : ∀ f z, wd f = some z → ∃ fw fdw psw, FnS X.prog X.w X.K X.mg X.base (L2.CX X.prog X.w) 1 fw fdw psw D z ∧ X.mg f = some (.ref fw) ∧ PySem.W.keepIn X.K (.ref fw) = true ∧ Binds X.K fdw psw [])
  (nd : X.N.Nodup) (fn : ∀ x, X.fn x = true)
include hi C hp hz hf V1 hr hW nd fn
theorem x_ok : ∀ (sx : List XSt) (ss : List Stmt), okX X.N X.env.scope n sx ss = true →
    PSs X ss (fun Dn σ H => σ[n]? = some (some (.ref a)) ∧ ∃ l, evX val wd sx = some l ∧ ∀ H', Same H H' → Dn.nx (setV l σ) H')
  | [], ss, h => by
    simp only [okX] at h
    split at h
    · refine pss_nil.imp fun Dn σ H ⟨_, l, e, q⟩ => ?_
      cases e
      exact q H (Same.refl _)
    · cases h
  | .set i z :: l, ss, h => by
    simp only [okX] at h
    split at h
    · simp only [Bool.and_eq_true, decide_eq_true_eq] at h
      obtain ⟨⟨⟨h1, h2⟩, rfl⟩, h4⟩ := h
      obtain ⟨w1, w2⟩ := tg_loc h1
      refine PSs.imp (pss_cons (ps_set nd w1 w2 pe_str rfl (.inl (fn _))) (x_ok l _ h4)) fun Dn σ H ⟨h1, l', e, q⟩ => ?_
      simp only [evX] at e
      split at e
      · rename_i r e1
        cases e
        exact ⟨by rw [List.getElem?_set_ne h2]; exact h1, r, e1, q⟩
      · cases e
    · cases h
  | .ifs t i z :: l, ss, h => by
    simp only [okX] at h
    split at h
    · simp only [Bool.and_eq_true, decide_eq_true_eq] at h
      obtain ⟨⟨⟨⟨h0, h1⟩, h2⟩, rfl⟩, h4⟩ := h
      obtain ⟨w1, w2⟩ := tg_loc h1
      refine PSs.imp (pss_cons (ps_if (wt_ok hi C hp hz hf V1 t _ h0) (pss_cons (ps_set nd w1 w2 pe_str rfl (.inl (fn _))) pss_nil) pss_nil) (x_ok l _ h4)) fun Dn σ H ⟨h1, l', e, q⟩ => ?_
      simp only [evX] at e
      split at e
      · rename_i b r e0 e1
        cases e
        refine ⟨h1, b, e0, fun H' sm => ?_⟩
        cases b with
        | true => exact ⟨by rw [List.getElem?_set_ne h2]; exact h1, r, e1, fun H2 sm2 => q H2 (sm.trans sm2)⟩
        | false => exact ⟨h1, r, e1, fun H2 sm2 => q H2 (sm.trans sm2)⟩
      · cases e
    · cases h
  | .word i f :: l, ss, h => by
    simp only [okX] at h
    split at h
    · simp only [Bool.and_eq_true, decide_eq_true_eq] at h
      obtain ⟨⟨⟨⟨⟨h1, h2⟩, rfl⟩, h3⟩, h4⟩, h5⟩ := h
      obtain ⟨w1, w2⟩ := tg_loc h1
      rename_i x p gn q1 y q2 q3 q4 r
      cases ew : wd gn with
      | none =>
        refine ⟨fun pins s σ H Dn I ⟨_, l', e, _⟩ => ?_⟩
        simp only [evX, ew] at e
        cases e
      | some z =>
        obtain ⟨fw, fdw, psw, Fw, mw, kw, bw⟩ := hW _ _ ew
        have pc := pe_callX (q := q1) (q2 := q2) (pos := q3) (X := X) (p := (a, oe)) Fw hr hp hz hf (gl_of h3).1 (gl_of h3).2 mw kw bw (fun σ _ _ _ _ _ _ c => (cx_no c).elim) h4
        refine PSs.imp (pss_cons (ps_set nd w1 w2 pc rfl (.inl (fn _))) (x_ok l _ h5)) fun Dn σ H ⟨h1, l', e, q⟩ => ?_
        simp only [evX, ew] at e
        split at e
        · rename_i z' r' e0 e1
          cases e0
          cases e
          exact ⟨h1, fun H' sm => ⟨by rw [List.getElem?_set_ne h2]; exact h1, r', e1, fun H2 sm2 => q H2 (sm.trans sm2)⟩⟩
        · cases e
    · cases h
end
end En
set_option Elab.async false
set_option linter.all false
set_option maxRecDepth 100000
set_option maxHeartbeats 8000000
namespace En
open PySem PySem.Spec PyProof.Rows L2

/-! ### the statements against the text -/
def isLc : ME → Bool
  | .lc _ _ _ _ => true
  | _ => false
def ownT : Expr → Bool
  | .Tuple _ _ _ => true
  | .List _ _ => true
  | _ => false
mutual
def okS (ex : Ex) (N : List Str) (sc : Scope) : MS → Stmt → Bool
  | .skip, s => match s with | .Pass _ => true | .Expr (.Constant (.str _) _ _) _ => true | _ => false
  | .set i e _, s => match s with | .Assign [.Name x p] v pos => tgOk N sc i (.Name x p) && okE N sc e v | _ => false
  | .unp l e, s => match s with | .Assign [.Tuple es _ _] v _ => tgsOk N sc l es && !(ownT v) && okE N sc e v | _ => false
  | .par i j a b, s => match s with | .Assign [.Tuple [.Name x px, .Name y py] _ _] (.Tuple [u, v] _ _) _ => decide (N[i]? = some x) && decide (N[j]? = some y) && decide (i ≠ j) && decide (x ≠ y) && decide (sc.names.lookup x = some .local) && decide (sc.names.lookup y = some .local) && decide (px.line = py.line) && !(foldedForSure 8 u) && !(constantsAlone 8 u) && okE N sc a u && okE N sc b v | _ => false
  | .ret e, s => match s with | .Return (some v) _ => okE N sc e v | _ => false
  | .retN, s => match s with | .Return none _ => true | _ => false
  | .reto i, s => match s with | .Return (some (.Name x _)) _ => slotOk N sc i x | _ => false
  | .ife c a b, s => match s with | .If t x y _ => okE N sc c t && okSs ex N sc a x && okSs ex N sc b y | _ => false
  | .for_ g it b, s => match s with | .For tg iter body [] _ => okG N sc g tg && okI N sc it tg iter && okSs ex N sc b body | _ => false
  | .whl c b, s => match s with | .While t body [] _ => okE N sc c t && okSs ex N sc b body | _ => false
  | .exp e, s => match s with | .Expr v _ => !(isLc e) && okE N sc e v | _ => false
  | .app i e, s => match s with | .Expr (.Call (.Attribute (.Name x _) m ap) [v] [] cp) _ => slotOk N sc i x && decide (m = "append") && (ap.endLine == cp.line) && okE N sc e v | _ => false
  | .ext i e, s => match s with | .Expr (.Call (.Attribute (.Name x _) m ap) [v] [] cp) _ => slotOk N sc i x && decide (m = "extend") && (ap.endLine == cp.line) && okE N sc e v | _ => false
  | .put i k e, s => match s with | .Assign [.Subscript (.Name x _) y _] v _ => slotOk N sc i x && okE N sc k y && okE N sc e v | _ => false
  | .dput i k e, s => match s with | .Assign [.Subscript (.Name x _) y _] v _ => slotOk N sc i x && okE N sc k y && okE N sc e v && !(isLc e) | _ => false
  | .ins i k e, s => match s with | .Expr (.Call (.Attribute (.Name x _) m ap) [y, v] [] cp) _ => slotOk N sc i x && decide (m = "insert") && (ap.endLine == cp.line) && okE N sc k y && okE N sc e v | _ => false
  | .popS z i, s => match s with | .Assign [.Name x p] (.Call (.Attribute (.Name y _) m ap) [] [] cp) _ => tgOk N sc z (.Name x p) && slotOk N sc i y && decide (m = "pop") && (ap.endLine == cp.line) | _ => false
  | .popI z i k, s => match s with | .Assign [.Name x p] (.Call (.Attribute (.Name y _) m ap) [v] [] cp) _ => tgOk N sc z (.Name x p) && slotOk N sc i y && decide (m = "pop") && (ap.endLine == cp.line) && okE N sc k v | _ => false
  | .raise_ x m, s => match s with | .Raise (some (.Call (.Name y _) [.Constant (.str m') _ _] [] _)) none _ => decide (x = y) && decide (m = m') && decide (x ∈ ex.rz) && glOk sc x | _ => false
  | .mov i j, s => match s with | .Assign [.Name x p] (.Name y _) _ => tgOk N sc i (.Name x p) && slotOk N sc j y | _ => false
  | .try_ b tb n sx, s => okTry ex N sc b tb n sx s
  | .brk, s => match s with | .Break _ => true | _ => false
  | .cnt, s => match s with | .Continue _ => true | _ => false
  | .never, _ => true
def okSs (ex : Ex) (N : List Str) (sc : Scope) : MSs → List Stmt → Bool
  | .nil, ss => match ss with | [] => true | _ => false
  | .cons m r, ss => match ss with | s :: t => okS ex N sc m s && okSs ex N sc r t | _ => false
  | .frz _ r, ss => okSs ex N sc r ss
end

/-! ### how the state may go on -/
def Evo (H : Hp) (M : AS) (H' : Hp) (M' : AS) : Prop := ∀ a u, ¬ M a → H a = some u → H' a = some u ∧ ¬ M' a
theorem Evo.refl (H : Hp) (M : AS) : Evo H M H M := fun a u m h => ⟨h, m⟩
theorem Evo.trans {H H1 H2 : Hp} {M M1 M2 : AS} (a : Evo H M H1 M1) (b : Evo H1 M1 H2 M2) : Evo H M H2 M2 := fun c u m h => b c u (a c u m h).2 (a c u m h).1
theorem Evo.pre {H H1 H2 : Hp} {M M2 : AS} (s : Same H H1) (b : Evo H1 M H2 M2) : Evo H M H2 M2 := fun c u m h => b c u m (s c u h)
theorem Evo.post {H H1 : Hp} {M : AS} (s : Same H H1) : Evo H M H1 M := fun c u m h => ⟨s c u h, m⟩
theorem Evo.tup {H H' : Hp} {M M' : AS} (e : Evo H M H' M') (dom : ∀ a, M a → ∃ o, H a = some o ∧ Mut (some o)) {a : Addr} {xs : List V} (r : Rd H a (.tup xs)) : Rd H' a (.tup xs) := by
  have nm : ¬ M a := fun m => by
    obtain ⟨o, q, t⟩ := dom a m
    rcases r with r | ⟨o', r⟩
    · rw [r] at q; cases q; exact t
    · rw [r] at q; cases q; exact t
  rcases r with r | ⟨o', r⟩
  · exact .inl (e a _ nm r).1
  · exact .inr ⟨o', (e a _ nm r).1⟩
theorem Evo.kp {H0 H H' : Hp} {M M' : AS} {m : Bool} (e : Evo H M H' M') (dom : ∀ a, M a → ∃ o, H a = some o ∧ Mut (some o)) : Kp H (Lm H0 M m) H' (Lm H0 M' m) :=
  ⟨fun a u l h => ⟨(e a u l.1 h).1, (e a u l.1 h).2, l.2⟩, fun a xs r => e.tup dom r⟩

/-- an object of one's own is changed -/
theorem EnvOk.mut {H0 : Hp} {M0 : AS} {H : Hp} {M : AS} {σ : L2.St} {env : List Sl} (ok : EnvOk H0 M0 H M σ env) {i : Nat} {m m' : Bool} {d d' : D} {a : Addr} {o : HO} (e : env[i]? = some (.ow m d)) (hs : σ[i]? = some (some (.ref a))) (hm : M a) (h0 : H0 a = none)
    (ho : Mut (some o)) (hn : Ob (upd H a o) (Lm H0 M m') a d') : EnvOk H0 M0 (upd H a o) M σ (env.set i (.ow m' d')) ∧ Evo H M (upd H a o) M := by
  obtain ⟨o1, q1, t1⟩ := ok.dom a hm
  have evo : Evo H M (upd H a o) M := fun b u nm h => ⟨by rw [upd_ne (fun z => nm (by rw [z]; exact hm))]; exact h, nm⟩
  have hi := (List.getElem?_eq_some_iff.mp e).1
  refine ⟨⟨by rw [List.length_set]; exact ok.len, fun b u h => ?_, ok.m0, fun b q => ?_, fun j s ej => ?_, fun j l m1 d1 m2 d2 b e1 e2 s1 s2 => ?_⟩, evo⟩
  · rw [upd_ne (ne_of_none h h0)]
    exact ok.same b u h
  · by_cases hb : b = a
    · subst hb; exact ⟨o, upd_same, ho⟩
    · rw [upd_ne hb]; exact ok.dom b q
  · have kp : ∀ {m : Bool}, Kp H (Lm H0 M m) (upd H a o) (Lm H0 M m) := fun {m} => evo.kp ok.dom
    by_cases hj : i = j
    · subst hj
      rw [List.getElem?_set_self hi] at ej
      cases ej
      exact ⟨a, hs, hm, h0, hn⟩
    · rw [List.getElem?_set_ne hj] at ej
      have h := ok.sl j s ej
      cases s with
      | no => trivial
      | pt v => exact h
      | fr m1 d1 =>
        obtain ⟨v, q, t⟩ := h
        exact ⟨v, q, kp.dt t⟩
      | ow m1 d1 =>
        obtain ⟨b, q, x, y, t⟩ := h
        have hb : b ≠ a := fun z => hj (ok.dis i j m d m1 d1 a e ej hs (by rw [q, z]))
        exact ⟨b, q, x, y, t.go (upd_ne hb) (kp (m := m1)).1 (kp (m := m1)).2⟩
  · have key : ∀ {j : Nat} {m1 : Bool} {d1 : D}, (env.set i (.ow m' d'))[j]? = some (.ow m1 d1) → ∃ m2 d2, env[j]? = some (.ow m2 d2) := fun {j m1 d1} ej => by
      by_cases hj : i = j
      · subst hj; exact ⟨_, _, e⟩
      · rw [List.getElem?_set_ne hj] at ej; exact ⟨_, _, ej⟩
    obtain ⟨_, _, f1⟩ := key e1
    obtain ⟨_, _, f2⟩ := key e2
    exact ok.dis j l _ _ _ _ b f1 f2 s1 s2
/-- it is changed no more -/
theorem EnvOk.freeze {H0 : Hp} {M0 : AS} {H : Hp} {M : AS} {σ : L2.St} {env : List Sl} (ok : EnvOk H0 M0 H M σ env) {i : Nat} {m : Bool} {d : D} {a : Addr} (e : env[i]? = some (.ow m d)) (hs : σ[i]? = some (some (.ref a))) (h0 : H0 a = none) (t : Ob H (Lm H0 M m) a d) :
    EnvOk H0 M0 H (fun b => M b ∧ b ≠ a) σ (env.set i (.fr m d)) ∧ Evo H M H (fun b => M b ∧ b ≠ a) := by
  have hi := (List.getElem?_eq_some_iff.mp e).1
  have wk : ∀ {m : Bool}, ∀ b, Lm H0 M m b → Lm H0 (fun b => M b ∧ b ≠ a) m b := fun {m} b l => ⟨fun z => l.1 z.1, l.2⟩
  refine ⟨⟨by rw [List.length_set]; exact ok.len, ok.same, fun b q => ⟨⟨(ok.m0 b q).1, fun z => (ok.m0 b q).2 (by rw [z]; exact h0)⟩, (ok.m0 b q).2⟩, fun b q => ok.dom b q.1, fun j s ej => ?_, fun j l m1 d1 m2 d2 b e1 e2 s1 s2 => ?_⟩, fun b u nm h => ⟨h, fun z => nm z.1⟩⟩
  · by_cases hj : i = j
    · subst hj
      rw [List.getElem?_set_self hi] at ej
      cases ej
      exact ⟨_, hs, (t.wk wk).dt ⟨fun z => z.2 rfl, fun _ => h0⟩⟩
    · rw [List.getElem?_set_ne hj] at ej
      have h := ok.sl j s ej
      cases s with
      | no => trivial
      | pt v => exact h
      | fr m1 d1 =>
        obtain ⟨v, q, t⟩ := h
        exact ⟨v, q, t.wk wk⟩
      | ow m1 d1 =>
        obtain ⟨b, q, x, y, t⟩ := h
        exact ⟨b, q, ⟨x, fun z => hj (ok.dis i j m d m1 d1 a e ej hs (by rw [q, z]))⟩, y, t.wk wk⟩
  · have key : ∀ {j : Nat} {m1 : Bool} {d1 : D}, (env.set i (.fr m d))[j]? = some (.ow m1 d1) → env[j]? = some (.ow m1 d1) := fun {j m1 d1} ej => by
      by_cases hj : i = j
      · subst hj; rw [List.getElem?_set_self hi] at ej; cases ej
      · rwa [List.getElem?_set_ne hj] at ej
    exact ok.dis j l _ _ _ _ b (key e1) (key e2) s1 s2
/-- a new list of one's own -/
theorem EnvOk.take {H0 : Hp} {M0 : AS} {H H1 : Hp} {M : AS} {σ : L2.St} {env : List Sl} (ok : EnvOk H0 M0 H M σ env) {i : Nat} {m : Bool} {d : D} {a : Addr} (hi : i < env.length) (s : Same H H1) (ha : H a = none) (t : Ob H1 (fun b => Lm H0 M m b ∧ b ≠ a) a d) :
    EnvOk H0 M0 H1 (fun b => M b ∨ b = a) (σ.set i (some (.ref a))) (env.set i (.ow m d)) ∧ Evo H M H1 (fun b => M b ∨ b = a) := by
  have k := ok.add ha s t.there
  have f := ok.fresh ha
  have hsi : i < σ.length := by rw [ok.len]; exact hi
  have old : ∀ {j : Nat} {m1 : Bool} {d1 : D} {b : Addr}, env[j]? = some (.ow m1 d1) → σ[j]? = some (some (.ref b)) → b ≠ a := fun {j m1 d1 b} e q z => by
    obtain ⟨c, q', x, _, _⟩ := ok.sl j _ e
    rw [q] at q'
    cases q'
    exact f.1 (by rw [← z]; exact x)
  refine ⟨⟨by rw [List.length_set, List.length_set]; exact k.len, k.same, k.m0, k.dom, fun j s' ej => ?_, fun j l m1 d1 m2 d2 b e1 e2 s1 s2 => ?_⟩, fun b u nm h => ⟨s b u h, fun z => z.elim nm fun z => by rw [z, ha] at h; cases h⟩⟩
  · by_cases hj : i = j
    · subst hj
      rw [List.getElem?_set_self hi] at ej
      cases ej
      exact ⟨a, List.getElem?_set_self hsi, .inr rfl, f.2, t.wk fun b q => ⟨fun z => z.elim q.1.1 q.2, q.1.2⟩⟩
    · rw [List.getElem?_set_ne hj] at ej
      have h := k.sl j s' ej
      rw [List.getElem?_set_ne hj]
      exact h
  · by_cases hj : i = j
    · subst hj
      rw [List.getElem?_set_self hsi] at s1
      cases s1
      by_cases hl : i = l
      · exact hl
      · rw [List.getElem?_set_ne hl] at e2 s2
        exact absurd rfl (old e2 s2)
    · rw [List.getElem?_set_ne hj] at e1 s1
      by_cases hl : i = l
      · subst hl
        rw [List.getElem?_set_self hsi] at s2
        cases s2
        exact absurd rfl (old e1 s1)
      · rw [List.getElem?_set_ne hl] at e2 s2
        exact ok.dis j l _ _ _ _ b e1 e2 s1 s2

/-! ### what is wanted behind a statement -/
section
variable (E : XK) (mg : Str → Option Value)
def Sp (D : Ends) (H0 : Hp) (M0 : AS) (H : Hp) (M : AS) : Fl → Prop
  | .bad => False
  | .err x => ∀ C H', mg x = some (.ref C) → Same H0 H' → E (.ref C) none H'
  | .next e => ∀ σ' H' M', EnvOk H0 M0 H' M' σ' e → Evo H M H' M' → D.nx σ' H'
  | .ret r => ∀ v H' M', Same H0 H' → (∀ a, M0 a → M' a) → RvOk H0 M' H0 H' v r → D.rt v H'
  | .brk e => ∀ σ' H' M', EnvOk H0 M0 H' M' σ' e → Evo H M H' M' → D.bk σ' H'
  | .cnt e => ∀ σ' H' M', EnvOk H0 M0 H' M' σ' e → Evo H M H' M' → D.ct σ' H'
end
section
variable {E : XK} {mg : Str → Option Value}
theorem Sp.of {α : Type} {D : Ends} {H0 : Hp} {M0 : AS} {H : Hp} {M : AS} {r : R α} {f : α → Fl} {σ : L2.St} {env : List Sl} {H2 : Hp} {M2 : AS} (ok : EnvOk H0 M0 H2 M2 σ env) (h : Sp E mg D H0 M0 H M (.of r f)) : Rp E mg H2 r fun a => Sp E mg D H0 M0 H M (f a) := by
  cases r with
  | bad => exact h
  | err x => exact fun C H' q s => h C H' q (ok.same.trans s)
  | ok a => exact h
end
section
variable (Γ : FT) (fuel : Nat) (E : XK) (mg : Str → Option Value)
def tS (m : MS) : TS := fun D σ H => ∃ H0 M0 M env, EnvOk H0 M0 H M σ env ∧ Sp E mg D H0 M0 H M (evS Γ fuel m env)
def tSs (m : MSs) : TS := fun D σ H => ∃ H0 M0 M env, EnvOk H0 M0 H M σ env ∧ Sp E mg D H0 M0 H M (evSs Γ fuel m env)
end
structure OkS (X : Cx) (Γ : FT) (E : XK) (k : Nat) (ex : Ex) : Prop where
  ok : Ok X Γ E k
  fn : ∀ x, X.fn x = true
  kind : X.env.scope.kind = .function
  own : PassesOwn (model X.prog X.w) X.A X.env X.xe
  rz : ∀ (x m : Str) (j : Nat) (p p2 p3 pos : Pos), x ∈ ex.rz → Gl X x → PS X (.Raise (some (.Call (.Name x p) [.Constant (.str m) j p2] [] p3)) none pos) (fun _ _ H => ∀ C, X.mg x = some (.ref C) → E (.ref C) none H)
  stk : X.stack = X.env :: X.outer
  frm : X.env.frame = some X.env.locals
  cl : ∀ T, T ∈ ex.cl → ∃ cT, X.mg T = some (.ref cT)
  xf : ∀ x, x ∈ ex.xs → ∀ C, X.mg x = some (.ref C) → XFact ex X.mg X.prog X.w X.K X.base x C
theorem OkS.fnIn {X : Cx} {Γ : FT} {E : XK} {k : Nat} {ex : Ex} (o : OkS X Γ E k ex) : FnIn X X.env.scope := fun x => ⟨fun h => h, fun h => ⟨h, o.fn x⟩⟩
end En
set_option Elab.async false
set_option linter.all false
set_option maxRecDepth 100000
set_option maxHeartbeats 8000000
namespace En
open PySem PySem.Spec PyProof.Rows L2

theorem put1_ok {E : XK} {mg : Str → Option Value} {D : Ends} {H0 : Hp} {M0 : AS} {H H1 : Hp} {M : AS} {σ : L2.St} {env : List Sl} {own : Bool} {i : Nat} {r : Rv} {v : V} (ok : EnvOk H0 M0 H M σ env) (s : Same H H1) (rv : RvOk H0 M H H1 v r)
    (h : Sp E mg D H0 M0 H M (put1 own i env r)) : D.nx (σ.set i (some v)) H1 := by
  have fr : ∀ {m : Bool} {d : En.D}, Dt H1 (Lm H0 M m) v d → Sp E mg D H0 M0 H M (setSl env i (.fr m d)) → D.nx (σ.set i (some v)) H1 := fun {m d} t h => by
    unfold setSl at h
    split at h
    · rename_i hi
      exact h _ H1 M ((ok.up s).set_fr t hi) (Evo.post s)
    · exact h.elim
  cases r with
  | fr m d =>
    simp only [put1] at h
    split at h
    · exact h.elim
    · exact fr rv h
  | ow m d =>
    simp only [put1] at h
    split at h
    · unfold setSl at h
      split at h
      · rename_i hi
        obtain ⟨a, rfl, ha, _, _, t⟩ := rv
        obtain ⟨k, e⟩ := ok.take hi s ha t
        exact h _ H1 _ k e
      · exact h.elim
    · obtain ⟨a, rfl, ha, h1, h2, t⟩ := rv
      exact fr ((t.wk (L' := Lm H0 M m) fun _ q => q.1).dt ⟨h1, fun _ => h2⟩) h
  | bo m d => exact h.elim
/-- what a list of one's own gives -/
theorem own_at {H0 : Hp} {M0 : AS} {H : Hp} {M : AS} {σ : L2.St} {env : List Sl} {i : Nat} {m : Bool} {ds : List D} (ok : EnvOk H0 M0 H M σ env) (e : env[i]? = some (.ow m (.list ds))) :
    ∃ a xs, σ[i]? = some (some (.ref a)) ∧ M a ∧ H0 a = none ∧ H a = some (.lst xs) ∧ Dts H (Lm H0 M m) xs ds := by
  obtain ⟨a, h1, h2, h3, t⟩ := ok.sl i _ e
  cases t with
  | lst q s => exact ⟨a, _, h1, h2, h3, q, s⟩
theorem dts_mut {H0 H : Hp} {M : AS} {m : Bool} {a : Addr} {o : HO} {xs ys : List V} {ds : List D} (hm : M a) (q : H a = some (.lst xs)) (s : Dts H (Lm H0 M m) ys ds) : Dts (upd H a o) (Lm H0 M m) ys ds :=
  dts_upd (fun z => z.1 hm) q (fun xs => ⟨fun z => (nomatch z), fun o z => (nomatch z)⟩) s
section
variable {X : Cx}
def rExtR : V → List V → Hp → VK → Prop := fun x vs H Q => ∃ l b xs zs, x = .ref l ∧ vs = [.ref b] ∧ H l = some (.lst xs) ∧ Rd H b (.lst zs) ∧ xs.length + zs.length ≤ sizeLine ∧ Q .non (upd H l (.lst (xs ++ zs)))
theorem mt_extR : MtM X "list.extend" rExtR := by
  intro pins s σ H x vs v us Q I rx rv h
  obtain ⟨l, b, xs, zs, rfl, rfl, hH, hB, hz, q⟩ := h
  cases rx
  obtain ⟨u, rfl, ru⟩ := rv.one
  cases ru
  obtain ⟨z, its, n, r, hl, e⟩ := I.lstM hH
  obtain ⟨z2, its2, n2, r2, hl2, e2⟩ := lstR I hB
  have hsz : its.toArray.size + its2.toArray.size ≤ sizeLine := by rw [List.size_toArray, List.size_toArray]; omega
  have hlong : ¬ (!its.toArray.isEmpty && Builtin.List.listTooLong (its.toArray.size + its2.toArray.size)) = true := by
    rw [notLongL hsz, Bool.and_false]
    exact Bool.false_ne_true
  refine call_meets F.slot_list_extend ⟨_, e, rfl⟩ F.entry_list_extend (F.args_list_extend_2 _ _)
    (AutoSeq1.list_extend_list_list_0 l its.toArray n b its2.toArray n2 hlong (by rw [List.size_toArray]; omega) (by omega)) ⟨e, e2, ?_⟩
  refine ⟨.non, _, I.lset (its' := its ++ its2) hH e (by simp) (r.append r2) ?_, rfl, q⟩
  rw [List.length_append]
  omega
end
theorem attr_base {N : List Str} {sc : Scope} {m : ME} {x : Expr} {f : Str} {env : Env} (hx : okE N sc m x = true) : attributeBase x f env (eval x env) = eval x env := by
  unfold attributeBase
  split
  · exfalso
    cases m <;> simp [okE] at hx
  · rfl
theorem sw_plain {N : List Str} {sc : Scope} {m : ME} {x : Expr} {t : Option Expr} {l : Nat} {env : Env} (hx : okE N sc m x = true) (hm : isLc m = false) : swapsWith x t l env = pure false := by
  cases x with
  | ListComp a b c d => cases m <;> simp [okE, isLc] at hx hm
  | SetComp a b c d => cases m <;> simp [okE] at hx
  | DictComp a b c d e => cases m <;> simp [okE] at hx
  | _ => rfl
theorem sw_tup {x : Expr} {es : List Expr} {k : Nat} {p : Pos} {l : Nat} {env : Env} : swapsWith x (some (.Tuple es k p)) l env = pure false := by
  cases x <;> rfl
theorem sw_sub {x a b : Expr} {p : Pos} {l : Nat} {env : Env} : swapsWith x (some (.Subscript a b p)) l env = pure false := by
  cases x <;> rfl
theorem sw_store {x : Expr} {es : List Expr} {k : Nat} {p : Pos} {env : Env} (h : ownT x = false) : swappedStores [.Tuple es k p] x env = pure none := by
  cases x <;> simp [ownT] at h <;> rfl
theorem sw_par {x y : Str} {u v : Expr} {px py pt pt2 : Pos} {kt k2 : Nat} {env : Env} (hk : env.scope.kind = .function) (hx : env.scope.names.lookup x = some .local) (hy : env.scope.names.lookup y = some .local) (hxy : x ≠ y) (hl : px.line = py.line)
    (f1 : foldedForSure 8 u = false) (f2 : constantsAlone 8 u = false) (n1 : ∀ a p, u ≠ .Starred a p) (n2 : ∀ a p, v ≠ .Starred a p) : swappedStores [.Tuple [.Name x px, .Name y py] kt pt] (.Tuple [u, v] k2 pt2) env = pure (some [x, y]) := by
  have kx : env.kindOf x = some .local := hx
  have ky : env.kindOf y = some .local := hy
  have hb : env.blockKind = .function := by unfold Env.blockKind; rw [hk]; rfl
  have hu : (match u with | .Starred .. => true | _ => false) = false := by
    cases u <;> first | rfl | exact absurd rfl (n1 _ _)
  have hv : (match v with | .Starred .. => true | _ => false) = false := by
    cases v <;> first | rfl | exact absurd rfl (n2 _ _)
  have hne : (y == x) = false := by simpa using Ne.symm hxy
  have hne2 : (x == y) = false := by simpa using hxy
  unfold swappedStores
  simp [kx, ky, hb, hu, hv, f1, f2, hl, Expr.pos, List.eraseDups, List.eraseDupsBy, List.eraseDupsBy.loop, hne, hne2]
theorem sw_store_sub {x a b : Expr} {p : Pos} {env : Env} : swappedStores [.Subscript a b p] x env = pure none := by
  cases x <;> rfl
section
variable {Γ : FT} {k fuel : Nat} {ex : Ex}
/-- a comprehension given to a name -/
theorem set_lc {X : Cx} {E : XK} {i : Nat} {e : ME} {x : Str} {p pos : Pos} {v : Expr} (o : OkS X Γ E k ex) (h1 : tgOk X.N X.env.scope i (.Name x p) = true) (h2 : okE X.N X.env.scope e v = true) :
    PS X (.Assign [.Name x p] v pos) (tAsg (tE Γ E X.mg e) (gName i)) := by
  have pv := (sE e v o.ok h2).1
  simp only [tgOk, Bool.and_eq_true, decide_eq_true_eq] at h1
  obtain ⟨hN, hk⟩ := h1
  have hloc : Loc X.env.scope x := by
    unfold kL at hk
    split at hk
    · rename_i q; exact .inl q
    · rename_i q; exact .inr q
    · cases hk
  have plain : swapsWith v (some (.Name x p)) pos.line X.env = pure false → PS X (.Assign [.Name x p] v pos) (tAsg (tE Γ E X.mg e) (gName i)) := fun sw => ps_set o.ok.nd hN hloc pv sw (.inl (o.fn x))
  by_cases hm : isLc e = true
  · cases e <;> simp [isLc] at hm
    rename_i g it c elt
    simp only [okE] at h2
    split at h2
    · rename_i x' tg iter ifs scope pos'
      simp only [Bool.and_eq_true] at h2
      obtain ⟨⟨⟨⟨g1, g2⟩, g3⟩, g4⟩, g5⟩ := h2
      have sw : ∃ b, swapsWith (.ListComp x' [⟨tg, iter, ifs, 0⟩] scope pos') (some (.Name x p)) pos.line X.env = pure b ∧ (b = true → X.env.kindOf x = some .local) := by
        refine ⟨X.env.blockKind == .function && X.env.kindOf x == some .local && p.line == pos'.line && !(scope.names.any fun (n, k) => n == x && (k == .local || k == .cell)), rfl, fun z => ?_⟩
        simp only [Bool.and_eq_true] at z
        exact eq_of_beq z.1.1.2
      obtain ⟨b, sw, hb⟩ := sw
      cases b with
      | false => exact plain sw
      | true =>
        have hown : (ownOf X.N g).map (·.2) = idx g := by
          unfold ownOf
          rw [List.map_map]
          exact List.map_id'' (fun _ => rfl) _
        have P := ps_setLc (te := tE Γ (fun _ _ _ => False) X.mg elt) (tt := tC Γ (fun _ _ _ => False) X.mg c) (g := gOf X g) (pos := pos') o.ok.calm o.ok.nd hN (hb rfl) sw (sI it tg iter o.ok g3) (blkOk_by g1)
          (fun s H C cl fp => g_ok (X := X.blk s H scope (compEnvC scope cl C X.env) fp) o.ok.nd o.ok.calm fnIn_blk g2)
          (fun s H C cl fp => sC c ifs (ok_blk o.ok) g4) (fun s H C cl fp => (sE elt x' (ok_blk o.ok) g5).1) (no_setI g3)
        rw [hown] at P
        exact P.imp fun D σ H h => lc_imp σ H _ h
    · cases h2
  · exact plain (sw_plain h2 (by simpa using hm))
end
end En
set_option Elab.async false
set_option linter.all false
set_option maxRecDepth 100000
set_option maxHeartbeats 8000000
namespace En
open PySem PySem.Spec PyProof.Rows L2

/-! ### try: calls; except: what is caught -/
theorem EnvOk.setNo {H0 : Hp} {M0 : AS} {H : Hp} {M : AS} {σ : L2.St} {env : List Sl} (ok : EnvOk H0 M0 H M σ env) (n : Nat) (o : Option V) : EnvOk H0 M0 H M (σ.set n o) (env.set n .no) := by
  have key : ∀ {j : Nat} {m1 : Bool} {d1 : En.D}, (env.set n .no)[j]? = some (.ow m1 d1) → env[j]? = some (.ow m1 d1) ∧ n ≠ j := fun {j m1 d1} ej => by
    by_cases hj : n = j
    · subst hj
      by_cases hl : n < env.length
      · rw [List.getElem?_set_self hl] at ej; cases ej
      · rw [List.getElem?_eq_none (by rw [List.length_set]; omega)] at ej; cases ej
    · rw [List.getElem?_set_ne hj] at ej; exact ⟨ej, hj⟩
  refine ⟨by rw [List.length_set, List.length_set]; exact ok.len, ok.same, ok.m0, ok.dom, fun j s ej => ?_, fun i j m d m' d' a e1 e2 s1 s2 => ?_⟩
  · by_cases hj : n = j
    · subst hj
      by_cases hl : n < env.length
      · rw [List.getElem?_set_self hl] at ej; cases ej; trivial
      · rw [List.getElem?_eq_none (by rw [List.length_set]; omega)] at ej; cases ej
    · rw [List.getElem?_set_ne hj] at ej ⊢
      exact ok.sl j s ej
  · obtain ⟨f1, n1⟩ := key e1
    obtain ⟨f2, n2⟩ := key e2
    rw [List.getElem?_set_ne n1] at s1
    rw [List.getElem?_set_ne n2] at s2
    exact ok.dis i j m d m' d' a f1 f2 s1 s2
/-- a list of one's own gets another name -/
theorem EnvOk.move {H0 : Hp} {M0 : AS} {H : Hp} {M : AS} {σ : L2.St} {env : List Sl} (ok : EnvOk H0 M0 H M σ env) {i j : Nat} {m : Bool} {d : En.D} {v : V} (e : env[j]? = some (.ow m d)) (hv : σ[j]? = some (some v)) (hi : i < env.length) (hij : i ≠ j) : EnvOk H0 M0 H M (σ.set i (some v)) ((env.set i (.ow m d)).set j .no) := by
  have hsi : i < σ.length := by rw [ok.len]; exact hi
  have hj := (List.getElem?_eq_some_iff.mp e).1
  have key : ∀ {l : Nat} {m1 : Bool} {d1 : En.D}, ((env.set i (.ow m d)).set j .no)[l]? = some (.ow m1 d1) → (l = i ∧ m1 = m ∧ d1 = d) ∨ (l ≠ i ∧ l ≠ j ∧ env[l]? = some (.ow m1 d1)) := fun {l m1 d1} el => by
    by_cases hl : j = l
    · subst hl
      rw [List.getElem?_set_self (by rw [List.length_set]; exact hj)] at el; cases el
    · rw [List.getElem?_set_ne hl] at el
      by_cases hil : i = l
      · subst hil
        rw [List.getElem?_set_self hi] at el; cases el; exact .inl ⟨rfl, rfl, rfl⟩
      · rw [List.getElem?_set_ne hil] at el; exact .inr ⟨Ne.symm hil, Ne.symm hl, el⟩
  refine ⟨by rw [List.length_set, List.length_set, List.length_set]; exact ok.len, ok.same, ok.m0, ok.dom, fun l s el => ?_, fun l l' m1 d1 m2 d2 a e1 e2 s1 s2 => ?_⟩
  · by_cases hl : j = l
    · subst hl
      rw [List.getElem?_set_self (by rw [List.length_set]; exact hj)] at el; cases el; trivial
    · rw [List.getElem?_set_ne hl] at el
      by_cases hil : i = l
      · subst hil
        rw [List.getElem?_set_self hi] at el; cases el
        obtain ⟨a, q, r⟩ := ok.sl j _ e
        rw [hv] at q
        cases q
        exact ⟨a, List.getElem?_set_self hsi, r⟩
      · rw [List.getElem?_set_ne hil] at el ⊢
        exact ok.sl l s el
  · rcases key e1 with ⟨rfl, _, _⟩ | ⟨a1, a2, a3⟩
    · rcases key e2 with ⟨rfl, _, _⟩ | ⟨b1, b2, b3⟩
      · rfl
      · rw [List.getElem?_set_self hsi] at s1
        cases s1
        rw [List.getElem?_set_ne (Ne.symm b1)] at s2
        exact absurd (ok.dis j l' _ _ _ _ a e b3 hv s2) (Ne.symm b2)
    · rcases key e2 with ⟨rfl, _, _⟩ | ⟨b1, b2, b3⟩
      · rw [List.getElem?_set_self hsi] at s2
        cases s2
        rw [List.getElem?_set_ne (Ne.symm a1)] at s1
        exact absurd (ok.dis j l _ _ _ _ a e a3 hv s1) (Ne.symm a2)
      · rw [List.getElem?_set_ne (Ne.symm a1)] at s1
        rw [List.getElem?_set_ne (Ne.symm b1)] at s2
        exact ok.dis l l' _ _ _ _ a a3 b3 s1 s2
theorem setZ_ok {H0 : Hp} {M0 : AS} {H : Hp} {M : AS} : ∀ (l : List (Nat × Str)) {σ : L2.St} {env : List Sl}, EnvOk H0 M0 H M σ env → EnvOk H0 M0 H M (setV l σ) (setZ l env)
  | [], _, _, ok => ok
  | p :: l, σ, env, ok => by
    refine setZ_ok l ?_
    by_cases hi : p.1 < env.length
    · exact ok.set_fr (.str _) hi
    · have h1 : env.set p.1 (.fr false (.str p.2)) = env := List.set_eq_of_length_le (by omega)
      have h2 : σ.set p.1 (some (.str p.2)) = σ := List.set_eq_of_length_le (by have := ok.len; omega)
      rw [h1, h2]
      exact ok
def FW : XK := fun _ _ _ => False
theorem noErr_of {α : Type} {H : Hp} {r : R α} {k : α → Prop} {E E' : XK} {mg : Str → Option Value} (h : Rp E mg H (noErr r) k) : Rp E' mg H r k := by
  cases r with
  | ok a => exact h
  | err x => exact h.elim
  | bad => exact h
theorem noErr_bind {α β : Type} {H : Hp} {r : R α} {f : α → R β} {k : β → Prop} {E E' : XK} {mg : Str → Option Value} (h : Rp E mg H ((noErr r).bind f) k) : Rp E' mg H r fun a => Rp E mg H (f a) k := by
  cases r with
  | ok a => exact h
  | err x => exact h.elim
  | bad => exact h
section
variable {Γ : FT} {k fuel : Nat}
/-- a call, what it raises with the slots as they stand -/
theorem cR_ok {Y : Cx} (ok : Ok Y Γ FW k) {W : WX} (tk : Takes Y W) (f : Str) (ms : MEs) (e : Expr) (h : okE Y.N Y.env.scope (.call f ms) e = true) :
    PE Y e (fun σ H Q => ∃ H0 M0 M env, EnvOk H0 M0 H M σ env ∧ Rp (WE W σ) Y.mg H (callR Γ env f ms) fun r => ∀ v H', Same H H' → RvOk H0 M H H' v r → Q v H') := by
  simp only [okE] at h
  split at h
  · simp only [Bool.and_eq_true, decide_eq_true_eq] at h
    obtain ⟨⟨rfl, h1⟩, h3⟩ := h
    have sa := (sEs ms _ ok h3).1
    have hst : ∀ x es, okEs Y.N Y.env.scope ms (x :: es) = true → starEach (x :: es) Y.env = (false, eval x Y.env) :: starEach es Y.env ∧ ∀ pos, (backTo pos (starEach es Y.env)).any (·.1) = false := fun x es hh => by
      cases ms with
      | nil => simp [okEs] at hh
      | cons m ms' =>
        simp only [okEs, Bool.and_eq_true] at hh
        exact ⟨star_cons hh.1 es _, fun pos => back_any pos _ (star_none hh.2)⟩
    cases hΓ : Γ f with
    | none =>
      refine ⟨fun pins s σ H Q I ⟨H0, M0, M, env, eo, q⟩ => ?_⟩
      simp only [callR, hΓ] at q
      exact q.elim
    | some p =>
      obtain ⟨n, g⟩ := p
      obtain ⟨fa, fd, ps, F, mf, kf, bf⟩ := ok.fns f n g hΓ
      refine (pe_callS (E := WE W) F (ok.room.mono (by omega)) (gl_of h1).1 mf kf bf (fun σ => passAt tk σ) sa (gl_of h1).2 (hst _ _ h3).1 ((hst _ _ h3).2 _)).imp fun σ H Q ⟨H0, M0, M, env, eo, q⟩ => by
        simp only [callR, hΓ] at q
        refine ⟨H0, M0, M, env, eo, (noErr_bind q).imp fun rs _ q vs H1 s1 rv => ?_⟩
        split at q
        · rename_i hn
          obtain ⟨Mc, m1, m2, ds⟩ := args_ok (eo.up s1) rv
          refine ⟨by rw [rv.length]; exact hn, Mc, _, fun a ha => (eo.up s1).dom a (m1 a ha), ds, ((Rp.bind q).same s1).imp fun r _ q v H2 s2 rv2 => ?_⟩
          cases e : ans (rs.any isBo) r with
          | bad => rw [e] at q; exact q.elim
          | err x => exact absurd e (ans_ne _ _ _)
          | ok r' =>
            rw [e] at q
            exact q v H2 (s1.trans s2) (rv2.ans (eo.up s1) s1 m2 e)
        · exact q.elim
  · cases h
def SpT (W : WX) (mg : Str → Option Value) (Dn : Ends) (H0 : Hp) (M0 : AS) (H : Hp) (M : AS) (σ : L2.St) : Fl → Prop
  | .next e => ∀ σ' H' M', EnvOk H0 M0 H' M' σ' e → Evo H M H' M' → Dn.nx σ' H'
  | .err x => ∀ C H', mg x = some (.ref C) → Same H H' → W (.ref C) none σ H'
  | _ => False
theorem SpT.of {α : Type} {W : WX} {mg : Str → Option Value} {Dn : Ends} {H0 : Hp} {M0 : AS} {H : Hp} {M : AS} {σ : L2.St} {r : R α} {f : α → Fl} (h : SpT W mg Dn H0 M0 H M σ (.of r f)) : Rp (WE W σ) mg H r fun a => SpT W mg Dn H0 M0 H M σ (f a) := by
  cases r with
  | bad => exact h
  | err x => exact h
  | ok a => exact h
theorem put1_T {W : WX} {mg : Str → Option Value} {Dn : Ends} {H0 : Hp} {M0 : AS} {H H1 : Hp} {M : AS} {σ : L2.St} {env : List Sl} {own : Bool} {i : Nat} {r : Rv} {v : V} (ok : EnvOk H0 M0 H M σ env) (s : Same H H1) (rv : RvOk H0 M H H1 v r)
    (h : SpT W mg Dn H0 M0 H M σ (put1 own i env r)) : Dn.nx (σ.set i (some v)) H1 := by
  refine put1_ok (E := FW) (mg := mg) (D := Dn) (own := own) (i := i) ok s rv ?_
  cases e : put1 own i env r with
  | next e' => rw [e] at h; exact h
  | bad => rw [e] at h; exact h
  | err x =>
    exfalso
    revert e
    unfold put1 setSl
    cases r <;> (repeat' split) <;> simp
  | ret _ => rw [e] at h; exact h.elim
  | brk _ => rw [e] at h; exact h.elim
  | cnt _ => rw [e] at h; exact h.elim
theorem t_ok {Y : Cx} (ok : Ok Y Γ FW k) (fn : ∀ x, Y.fn x = true) {W : WX} (tk : Takes Y W) : ∀ (b : TB) (s : Stmt), okT Y.N Y.env.scope b s = true →
    PS Y s (fun Dn σ H => ∃ H0 M0 M env, EnvOk H0 M0 H M σ env ∧ SpT W Y.mg Dn H0 M0 H M σ (evT Γ b env))
  | .ex f es, s, h => by
    simp only [okT] at h
    split at h
    · refine (ps_expr (cR_ok ok tk f es _ h) (sw_plain h rfl)).imp fun Dn σ H ⟨H0, M0, M, env, eo, q⟩ => ?_
      simp only [evT] at q
      exact ⟨H0, M0, M, env, eo, (SpT.of q).imp fun r _ q v H1 s1 rv => q σ H1 M (eo.up s1) (Evo.post s1)⟩
    · cases h
  | .st i own f es, s, h => by
    simp only [okT] at h
    split at h
    · simp only [Bool.and_eq_true] at h
      obtain ⟨w1, w2⟩ := tg_loc h.1
      refine (ps_set ok.nd w1 w2 (cR_ok ok tk f es _ h.2) (sw_plain h.2 rfl) (.inl (fn _))).imp fun Dn σ H ⟨H0, M0, M, env, eo, q⟩ => ?_
      simp only [evT] at q
      exact ⟨H0, M0, M, env, eo, (SpT.of q).imp fun r _ q v H1 s1 rv => put1_T eo s1 rv q⟩
    · cases h
  | .if_ c a b, s, h => by
    simp only [okT] at h
    split at h
    · simp only [Bool.and_eq_true] at h
      obtain ⟨⟨h1, h2⟩, h3⟩ := h
      refine (ps_if (sE c _ ok h1).2 (pss_cons (t_ok ok fn tk a _ h2) pss_nil) (pss_cons (t_ok ok fn tk b _ h3) pss_nil)).imp fun Dn σ H ⟨H0, M0, M, env, eo, q⟩ => ?_
      simp only [evT] at q
      refine ⟨H0, M0, M, env, eo, (noErr_of (SpT.of q)).imp fun t _ q H1 s1 => ?_⟩
      have go : ∀ {f : Fl}, SpT W Y.mg Dn H0 M0 H M σ f → SpT W Y.mg Dn H0 M0 H1 M σ f := fun {f} q => by
        cases f with
        | next e => exact fun σ' H' M' k' e' => q σ' H' M' k' (Evo.pre s1 e')
        | err x => exact fun C H' hC sm => q C H' hC (s1.trans sm)
        | _ => exact q
      cases t with
      | true => exact ⟨H0, M0, M, env, eo.up s1, go q⟩
      | false => exact ⟨H0, M0, M, env, eo.up s1, go q⟩
    · cases h
theorem lookup_mem {β : Type} {x : Str} {l : β} : ∀ {tb : List (Str × β)}, tb.lookup x = some l → (x, l) ∈ tb
  | (y, b) :: tb, h => by
    rw [List.lookup_cons] at h
    cases e : x == y with
    | true =>
      rw [e] at h
      cases h
      rw [eq_of_beq e]
      exact List.mem_cons_self
    | false =>
      rw [e] at h
      exact List.mem_cons_of_mem _ (lookup_mem h)
theorem try_ok {X : Cx} {E : XK} {ex : Ex} (o : OkS X Γ E k ex) {b : TB} {tb : List (Str × List (Nat × Str))} {n : Nat} {sx : List XSt} {s : Stmt} (h : okTry ex X.N X.env.scope b tb n sx s = true) :
    PS X s (fun Dn σ H => ∃ H0 M0 M env, EnvOk H0 M0 H M σ env ∧ Sp E X.mg Dn H0 M0 H M (tryR tb n env (evT Γ b env))) := by
  unfold okTry at h
  split at h
  · rename_i sb T np nm s0 ss hp pos
    simp only [Bool.and_eq_true, decide_eq_true_eq] at h
    obtain ⟨⟨⟨⟨⟨⟨h1, h2⟩, h3⟩, h4⟩, h5⟩, h6⟩, h7⟩ := h
    obtain ⟨cT, hT⟩ := o.cl T h6
    have suite : ∀ (a : Addr) (oe : Obj) (cls : Value) (d : Option Addr) (pn : List (Addr × Obj)), Zc cls d oe → (∃ vs, oe.data = .fields vs) → PSs (X.suite a ((a, oe) :: pn)) (s0 :: ss)
        (fun Dn σ H1 => ∃ x C l, x ∈ ex.xs ∧ cls = .ref C ∧ d = none ∧ X.mg x = some (.ref C) ∧ σ[n]? = some (some (.ref a)) ∧ evX (ex.val x) (ex.wd x) sx = some l ∧ ∀ H', Same H1 H' → Dn.nx (setV l σ) H') := fun a oe cls d pn hz hf => ⟨fun pins s' σ H' Dn I ⟨x, C, l, hx, e1, e2, hm, hn, hl, q⟩ => by
      subst e1 e2
      have F := o.xf x hx C hm
      have hrm := o.ok.room.mono (show 1 ≤ k + 2 by omega)
      exact PSs.run (x_ok (X := X.suite a ((a, oe) :: pn)) (D := C) (oe := oe) (a := a) (n := n) (val := ex.val x) (wd := ex.wd x) (o.ok.blt _ (by decide)) F.c List.mem_cons_self hz hf F.v ⟨hrm.dp, hrm.un⟩ (fun f z e => F.w f z e) o.ok.nd o.fn sx (s0 :: ss) h2) pins s' σ H' Dn I ⟨hn, l, hl, q⟩⟩
    have body : ∀ (W : WX) (pn : List (Addr × Obj)) (xe : Value → Shared → Prop), Takes (X.tr pn xe) W → PassesOwn (model X.prog X.w) X.A X.env xe → PSs (X.tr pn xe) [sb] (fun Dn σ H => ∃ H0 M0 M env, EnvOk H0 M0 H M σ env ∧ SpT W X.mg Dn H0 M0 H M σ (evT Γ b env)) :=
      fun W pn xe tkW po => (pss_cons (t_ok (Y := X.tr pn xe) ⟨o.ok.calm, o.ok.nd, o.ok.hu, o.ok.room, takes0, o.ok.blt, o.ok.fns⟩ o.fn tkW b sb h1) pss_nil).imp fun Dn σ H ⟨H0, M0, M, env, eo, q⟩ => ⟨H0, M0, M, env, eo, q⟩
    refine (ps_try_as (Wout := fun c d _ H => E c d H) o.stk o.frm o.ok.nd h3 (show X.env.kindOf nm = some .local from h4) ⟨(gl_of h5).1, (gl_of h5).2, .inl hT⟩ o.ok.tk body suite).imp fun Dn σ H ⟨H0, M0, M, env, eo, q⟩ => ?_
    refine ⟨H0, M0, M, env, eo, ?_⟩
    cases e : evT Γ b env with
    | next e' => rw [e] at q; exact q
    | err x =>
      rw [e] at q
      simp only [tryR] at q
      cases el : tb.lookup x with
      | none => rw [el] at q; exact q.elim
      | some l =>
        rw [el] at q
        simp only at q
        split at q
        case isFalse => exact q.elim
        rename_i hnl
        have hq := List.all_eq_true.mp h7 _ (lookup_mem el)
        simp only [Bool.and_eq_true, decide_eq_true_eq] at hq
        obtain ⟨⟨q1, q2⟩, q3⟩ := hq
        intro C H1 hC sm
        have F := o.xf x q1 C hC
        refine ⟨true, F.t T true q2 cT hT, fun _ a ha => ⟨x, C, l, q1, rfl, rfl, hC, ?_, q3, fun H2 sm2 => ?_⟩, fun z => nomatch z⟩
        · exact List.getElem?_set_self (by rw [eo.len]; exact hnl)
        · exact q _ H2 M (((setZ_ok l (((eo.up sm).up sm2).setNo n (some (.ref a))))).setNo n none) (Evo.post (sm.trans sm2))
    | bad => rw [e] at q; exact q.elim
    | ret _ => rw [e] at q; exact q.elim
    | brk _ => rw [e] at q; exact q.elim
    | cnt _ => rw [e] at q; exact q.elim
  · cases h
end
end En
set_option Elab.async false
set_option linter.all false
set_option maxRecDepth 100000
set_option maxHeartbeats 8000000
namespace En
open PySem PySem.Spec PyProof.Rows L2

theorem Sp.base {E : XK} {mg : Str → Option Value} {D : Ends} {H0 : Hp} {M0 : AS} {H H1 : Hp} {M M1 : AS} {f : Fl} (h : Sp E mg D H0 M0 H M f) (e : Evo H M H1 M1) : Sp E mg D H0 M0 H1 M1 f := by
  cases f with
  | bad => exact h
  | err x => exact h
  | next env => exact fun σ' H' M' k v => h σ' H' M' k (e.trans v)
  | ret r => exact h
  | brk env => exact fun σ' H' M' k v => h σ' H' M' k (e.trans v)
  | cnt env => exact fun σ' H' M' k v => h σ' H' M' k (e.trans v)
/-- one after another -/
theorem Sp.then {E : XK} {mg : Str → Option Value} {D : Ends} {H0 : Hp} {M0 : AS} {H : Hp} {M : AS} {f : Fl} {g : List Sl → Fl} {nx : L2.St → Hp → Prop} (h : Sp E mg D H0 M0 H M (f.then g))
    (n : ∀ env σ' H' M', Sp E mg D H0 M0 H M (g env) → EnvOk H0 M0 H' M' σ' env → Evo H M H' M' → nx σ' H') : Sp E mg { D with nx := nx } H0 M0 H M f := by
  cases f with
  | bad => exact h
  | err x => exact h
  | next env => exact fun σ' H' M' k v => n env σ' H' M' h k v
  | ret r => exact h
  | brk env => exact h
  | cnt env => exact h
theorem sto_ne (r : Rv) (x : Str) : sto r ≠ .err x := by cases r <;> simp [sto]
theorem sp_sto {E : XK} {mg : Str → Option Value} {D : Ends} {H0 : Hp} {M0 : AS} {H : Hp} {M : AS} {r : Rv} {f : Bool × En.D → Fl} (h : Sp E mg D H0 M0 H M (.of (sto r) f)) : ∃ p, sto r = .ok p ∧ Sp E mg D H0 M0 H M (f p) := by
  cases e : sto r with
  | bad => rw [e] at h; exact h.elim
  | err x => exact absurd e (sto_ne _ _)
  | ok p => rw [e] at h; exact ⟨p, rfl, h⟩
theorem sub_assign {N : List Str} {sc : Scope} {m : ME} {y : Expr} {x : Str} {p pos : Pos} {env : Env} (hy : okE N sc m y = true) : ∀ v, assign (.Subscript (.Name x p) y pos) env v = (do
      let ov ← holding [v] (eval (.Name x p) env)
      let iv ← holding [v, ov] (eval y env)
      standAt pos
      holding [v, ov, iv] (setItem ov iv v)
      release [v, ov, iv] []) := by
  intro v
  cases y with
  | Slice a b c d => rw [ok_slice] at hy; cases hy
  | _ => rfl
theorem setAll_ne (m : Bool) : ∀ (l : List Nat) (ds : List En.D) (env : List Sl) (x : Str), setAll m l ds env ≠ .err x
  | [], [], _, _ => by simp [setAll]
  | i :: l, d :: ds, env, x => by
    unfold setAll
    split
    · exact setAll_ne m l ds _ x
    · simp
  | [], _ :: _, _, _ => by simp [setAll]
  | _ :: _, [], _, _ => by simp [setAll]
theorem bindG_ne (g : MG) (m : Bool) (d : En.D) (env : List Sl) (x : Str) : bindG g m d env ≠ .err x := by
  cases g with
  | n i => simp only [bindG]; split <;> simp
  | t l =>
    cases d <;> simp only [bindG] <;> first | exact setAll_ne _ _ _ _ _ | simp
theorem Dvs.app {H : Hp} {L : AS} : ∀ {ws : List V} {fs : List (En.D × En.D)} {w : V} {f : En.D × En.D}, Dvs H L ws fs → Dt H L w f.2 → Dvs H L (ws ++ [w]) (fs ++ [f])
  | [], _, _, _, h, t => by cases h; exact .cons t .nil
  | _ :: _, _, _, _, h, t => by
    cases h with
    | cons a b => exact .cons a (Dvs.app b t)
theorem few1 {N : List Str} {sc : Scope} {m : ME} {v : Expr} {cp : Pos} {env : Env} (h : okE N sc m v = true) : ((backTo cp (starEach [v] env)).all (fun x => !x.1) && (backToKw cp (keywordEach [] env)).all (fun x => x.1.isSome)
      && decide ([v].length + ([] : List Keyword).length + (if ([] : List Keyword).isEmpty then 0 else 1) < 30)) = true := by
  rw [star_cons h]
  rfl
section
variable {Γ : FT} {k fuel : Nat} {ex : Ex}
mutual
theorem sS : ∀ (m : MS) {X : Cx} {E : XK} (s : Stmt), OkS X Γ E k ex → okS ex X.N X.env.scope m s = true → PS X s (tS Γ fuel E X.mg m)
  | .skip, X, E, s, o, h => by
    simp only [okS] at h
    split at h
    · exact ps_pass.imp fun D σ H ⟨H0, M0, M, env, eo, q⟩ => q σ H M eo (Evo.refl _ _)
    · exact ps_doc.imp fun D σ H ⟨H0, M0, M, env, eo, q⟩ => q σ H M eo (Evo.refl _ _)
    · cases h
  | .set i e own, X, E, s, o, h => by
    simp only [okS] at h
    split at h
    · simp only [Bool.and_eq_true] at h
      refine (set_lc o h.1 h.2).imp fun D σ H ⟨H0, M0, M, env, eo, q⟩ => ?_
      simp only [evS] at q
      exact ⟨H0, M0, M, env, eo, (Sp.of eo q).imp fun r _ q v H1 s1 rv => put1_ok eo s1 rv q⟩
    · cases h
  | .par i j a b, X, E, s, o, h => by
    simp only [okS] at h
    split at h
    · rename_i x px y py kt pt u v k2 pt2 pos
      simp only [Bool.and_eq_true, decide_eq_true_eq, Bool.not_eq_true'] at h
      obtain ⟨⟨⟨⟨⟨⟨⟨⟨⟨⟨h1, h2⟩, h3⟩, h4⟩, h5⟩, h6⟩, h7⟩, h8⟩, h9⟩, ha⟩, hb⟩ := h
      have ns : ∀ {m : ME} {e : Expr}, okE X.N X.env.scope m e = true → ∀ a p, e ≠ .Starred a p := fun {m e} he a p z => by rw [z, ok_star] at he; cases he
      have hes : okEs X.N X.env.scope (.cons a (.cons b .nil)) [u, v] = true := by simp only [okEs, ha, hb]; rfl
      refine (ps_par o.ok.calm o.ok.nd h1 h2 h3 h5 h6 (sEs (.cons a (.cons b .nil)) [u, v] o.ok hes).1 (sw_par o.kind h5 h6 h4 h7 h8 h9 (ns ha) (ns hb)) (show swapsWithSole [.Tuple [.Name x px, .Name y py] kt pt] (.Tuple [u, v] k2 pt2) pos.line X.env = pure false from rfl)).imp fun D σ H ⟨H0, M0, M, env, eo, q⟩ => ?_
      simp only [evS] at q
      refine ⟨H0, M0, M, env, eo, (Sp.of eo q).imp fun rs _ q vs H1 s1 rv => ?_⟩
      cases e1 : stos rs with
      | bad => rw [e1] at q; exact q.elim
      | err z => exact absurd e1 (stos_ne _ _)
      | ok p =>
        rw [e1] at q
        have t := rv.stos e1
        cases e2 : setAll p.1 [i, j] p.2 env with
        | bad => simp only [Fl.of, e2] at q
                 exact q.elim
        | err z => exact absurd e2 (setAll_ne _ _ _ _ _)
        | ok env' =>
          simp only [Fl.of, e2] at q
          obtain ⟨hl, k⟩ := setAll_ok (eo.up s1) t e2
          cases vs with
          | nil => simp at hl
          | cons v1 vs => cases vs with
            | nil => simp at hl
            | cons v2 vs => cases vs with
              | cons _ _ => simp at hl
              | nil => exact ⟨v1, v2, rfl, q _ H1 M k (Evo.post s1)⟩
    · cases h
  | .unp l e, X, E, s, o, h => by
    simp only [okS] at h
    split at h
    · rename_i es kk p v pos
      simp only [Bool.and_eq_true, Bool.not_eq_true'] at h
      obtain ⟨⟨h1, h2⟩, h3⟩ := h
      have hg : PG X (.Tuple es kk p) (gOf X (.t l)) := g_ok (g := .t l) (e := .Tuple es kk p) o.ok.nd o.ok.calm o.fnIn h1
      refine (ps_asg (sE e v o.ok h3).1 hg (show swapsWithSole [.Tuple es kk p] v pos.line X.env = pure false from @sw_tup v es kk p pos.line X.env) (sw_store h2) rfl).imp fun D σ H ⟨H0, M0, M, env, eo, q⟩ => ?_
      simp only [evS] at q
      refine ⟨H0, M0, M, env, eo, (Sp.of eo q).imp fun r _ q v H1 s1 rv => ?_⟩
      split at q
      · exact q.elim
      · split at q
        · rename_i ds hd
          cases e2 : setAll r.m l ds env with
          | bad => rw [e2] at q; exact q.elim
          | err x => exact absurd e2 (setAll_ne _ _ _ _ _)
          | ok env' =>
            rw [e2] at q
            have c := rv.cn
            rw [hd] at c
            cases c with
            | @tup a xs _ r' s' =>
              obtain ⟨g1, g2⟩ := setAll_ok (eo.up s1) s' e2
              exact ⟨a, xs, rfl, .inl (.inl r'), g1, g1, q _ H1 M g2 (Evo.post s1)⟩
        · rename_i ds hd
          cases e2 : setAll r.m l ds env with
          | bad => rw [e2] at q; exact q.elim
          | err x => exact absurd e2 (setAll_ne _ _ _ _ _)
          | ok env' =>
            rw [e2] at q
            have c := rv.cn
            rw [hd] at c
            cases c with
            | @lst a xs _ r' s' =>
              obtain ⟨g1, g2⟩ := setAll_ok (eo.up s1) s' e2
              exact ⟨a, xs, rfl, .inr (.inl r'), g1, g1, q _ H1 M g2 (Evo.post s1)⟩
        · exact q.elim
    · cases h
  | .ret e, X, E, s, o, h => by
    simp only [okS] at h
    split at h
    · refine (ps_ret (sE e _ o.ok h).1).imp fun D σ H ⟨H0, M0, M, env, eo, q⟩ => ?_
      simp only [evS] at q
      refine ⟨H0, M0, M, env, eo, (Sp.of eo q).imp fun r _ q v H1 s1 rv => ?_⟩
      split at q
      · exact q.elim
      · exact q v H1 M (eo.same.trans s1) (fun a m => (eo.m0 a m).1) (rv.back eo.same)
    · cases h
  | .retN, X, E, s, o, h => by
    simp only [okS] at h
    split at h
    · exact ps_retN.imp fun D σ H ⟨H0, M0, M, env, eo, q⟩ => q _ H M eo.same (fun a m => (eo.m0 a m).1) .non
    · cases h
  | .reto i, X, E, s, o, h => by
    simp only [okS] at h
    split at h
    · refine (ps_ret (pe_v h)).imp fun D σ H ⟨H0, M0, M, env, eo, q⟩ => ?_
      simp only [evS] at q
      split at q
      · rename_i m d e
        obtain ⟨a, h1, h2, h3, t⟩ := eo.sl i _ e
        have q : ∀ v H' M', Same H0 H' → (∀ a, M0 a → M' a) → RvOk H0 M' H0 H' v (.ow m d) → D.rt v H' := q
        refine ⟨_, h1, q _ H (fun b => M b ∧ b ≠ a) eo.same (fun b mb => ⟨(eo.m0 b mb).1, fun z => (eo.m0 b mb).2 (by rw [z]; exact h3)⟩) ⟨a, rfl, h3, fun z => z.2 rfl, h3, t.wk fun b l => ⟨⟨fun z => l.1 z.1, l.2⟩, fun z => l.1 (by rw [z]; exact h2)⟩⟩⟩
      · exact q.elim
    · cases h
  | .ife c a b, X, E, s, o, h => by
    simp only [okS] at h
    split at h
    · simp only [Bool.and_eq_true] at h
      obtain ⟨⟨h1, h2⟩, h3⟩ := h
      refine (ps_if (sE c _ o.ok h1).2 (sSs a _ o h2) (sSs b _ o h3)).imp fun D σ H ⟨H0, M0, M, env, eo, q⟩ => ?_
      simp only [evS] at q
      refine ⟨H0, M0, M, env, eo, (Sp.of eo q).imp fun t _ q H1 s1 => ?_⟩
      cases t with
      | true => exact ⟨H0, M0, M, env, eo.up s1, q.base (Evo.post s1)⟩
      | false => exact ⟨H0, M0, M, env, eo.up s1, q.base (Evo.post s1)⟩
    · cases h
  | .for_ g it b, X, E, s, o, h => by
    simp only [okS] at h
    split at h
    · rename_i tg iter body pos
      simp only [Bool.and_eq_true] at h
      obtain ⟨⟨h1, h2⟩, h3⟩ := h
      refine (ps_for o.own o.ok.calm (sI it tg iter o.ok h2) (g_ok o.ok.nd o.ok.calm o.fnIn h1) (sSs b body o h3) (no_setI h2)).imp fun D σ H ⟨H0, M0, M, env, eo, q⟩ => ?_
      simp only [evS] at q
      refine ⟨H0, M0, M, env, eo, (Sp.of eo q).imp fun p _ q J H1 s1 wk => ?_⟩
      obtain ⟨G, Y, w, hG, hY⟩ := wk
      generalize hF : (fun d e => Fl.of (bindG g p.1 d e) fun e' => evSs Γ fuel b e') = F at q
      have eo1 := eo.up s1
      refine for_it w (fun i σ2 H2 => ∃ M2 env2, EnvOk H0 M0 H2 M2 σ2 env2 ∧ Evo H1 M H2 M2 ∧ Sp E X.mg D H0 M0 H M (forR F (p.2.drop i) env2)) ⟨M, env, eo1, Evo.refl _ _, by simpa using q⟩ ?_ ?_ ?_
      · rintro i σ2 H2 _ ⟨M2, env2, _, e2, _⟩
        exact hG H2 _ (e2.kp eo1.dom)
      · rintro i x σ2 H2 H3 hlt ⟨M2, env2, k2, e2, q2⟩ y
        have hd : p.2[i]? = some p.2[i] := List.getElem?_eq_getElem hlt
        rw [List.drop_eq_getElem_cons hlt] at q2
        generalize p.2[i] = d at hd q2
        obtain ⟨s3, t3⟩ := hY i H2 x H3 d _ (e2.kp eo1.dom) y hd
        have k3 := k2.up s3
        unfold forR at q2
        have hFd : F d env2 = Fl.of (bindG g p.1 d env2) fun e' => evSs Γ fuel b e' := by rw [← hF]
        rw [hFd] at q2
        cases e3 : bindG g p.1 d env2 with
        | bad => rw [e3] at q2; exact q2.elim
        | err x => exact absurd e3 (bindG_ne _ _ _ _ _)
        | ok env3 =>
          rw [e3] at q2
          refine bind_ok k3 t3 e3 fun σ3 k4 _ _ => ⟨H0, M0, M2, env3, k4, ?_⟩
          have q2 : Sp E X.mg D H0 M0 H M (match evSs Γ fuel b env3 with
            | .next e => forR F (p.2.drop (i + 1)) e
            | .cnt e => forR F (p.2.drop (i + 1)) e
            | .brk e => .next e
            | a => a) := q2
          cases e5 : evSs Γ fuel b env3 with
          | bad => rw [e5] at q2; exact q2
          | err x => rw [e5] at q2; exact q2
          | ret r => rw [e5] at q2; exact q2
          | next env4 => rw [e5] at q2; exact fun σ' H' M' k' e' => ⟨M', env4, k', e2.trans ((Evo.post s3).trans e'), q2⟩
          | cnt env4 => rw [e5] at q2; exact fun σ' H' M' k' e' => ⟨M', env4, k', e2.trans ((Evo.post s3).trans e'), q2⟩
          | brk env4 =>
            rw [e5] at q2
            exact fun σ' H' M' k' e' => q2 σ' H' M' k' ((Evo.pre s1 e2).trans ((Evo.post s3).trans e'))
      · rintro σ2 H2 ⟨M2, env2, k2, e2, q2⟩
        rw [List.drop_length] at q2
        exact q2 σ2 H2 M2 k2 (Evo.pre s1 e2)
    · cases h
  | .whl c b, X, E, s, o, h => by
    simp only [okS] at h
    split at h
    · simp only [Bool.and_eq_true] at h
      obtain ⟨h1, h2⟩ := h
      refine (ps_while o.own (sE c _ o.ok h1).2 (sSs b _ o h2)).imp fun D σ H ⟨H0, M0, M, env, eo, q⟩ => ?_
      simp only [evS] at q
      refine ⟨fun n σ2 H2 => ∃ M2 env2, EnvOk H0 M0 H2 M2 σ2 env2 ∧ Evo H M H2 M2 ∧ Sp E X.mg D H0 M0 H M (whlR (fun e => (evE Γ e c).bind truth) (fun e => evSs Γ fuel b e) n env2), ⟨fuel, M, env, eo, Evo.refl _ _, q⟩, ?_⟩
      rintro n σ2 H2 ⟨M2, env2, k2, e2, q2⟩
      cases n with
      | zero => exact q2.elim
      | succ n =>
        unfold whlR at q2
        refine ⟨H0, M0, M2, env2, k2, (Sp.of k2 q2).imp fun t _ q2 H3 s3 => ?_⟩
        cases t with
        | false =>
          rw [if_neg (by simp)] at q2 ⊢
          exact q2 σ2 H3 M2 (k2.up s3) (e2.trans (Evo.post s3))
        | true =>
          rw [if_pos rfl] at q2 ⊢
          refine ⟨fun σ' H' => ∃ M' env', EnvOk H0 M0 H' M' σ' env' ∧ Evo H M H' M' ∧ Sp E X.mg D H0 M0 H M (whlR (fun e => (evE Γ e c).bind truth) (fun e => evSs Γ fuel b e) n env'), fun σ' H' p => ⟨n, Nat.lt_succ_self n, p⟩, H0, M0, M2, env2, k2.up s3, ?_⟩
          cases e5 : evSs Γ fuel b env2 with
          | bad => rw [e5] at q2; exact q2
          | err x => rw [e5] at q2; exact q2
          | ret r => rw [e5] at q2; exact q2
          | next env4 => rw [e5] at q2; exact fun σ' H' M' k' e' => ⟨M', env4, k', e2.trans ((Evo.post s3).trans e'), q2⟩
          | cnt env4 => rw [e5] at q2; exact fun σ' H' M' k' e' => ⟨M', env4, k', e2.trans ((Evo.post s3).trans e'), q2⟩
          | brk env4 =>
            rw [e5] at q2
            exact fun σ' H' M' k' e' => q2 σ' H' M' k' (e2.trans ((Evo.post s3).trans e'))
    · cases h
  | .exp e, X, E, s, o, h => by
    simp only [okS] at h
    split at h
    · simp only [Bool.and_eq_true, Bool.not_eq_true'] at h
      refine (ps_expr (sE e _ o.ok h.2).1 (sw_plain h.2 h.1)).imp fun D σ H ⟨H0, M0, M, env, eo, q⟩ => ?_
      simp only [evS] at q
      exact ⟨H0, M0, M, env, eo, (Sp.of eo q).imp fun r _ q v H1 s1 rv => q σ H1 M (eo.up s1) (Evo.post s1)⟩
    · cases h
  | .app i e, X, E, s, o, h => by
    simp only [okS] at h
    split at h
    · rename_i x p m ap v cp pos
      simp only [Bool.and_eq_true, decide_eq_true_eq] at h
      obtain ⟨⟨⟨h1, rfl⟩, h2⟩, h3⟩ := h
      refine (ps_expr (pe_bm PySem.F.plainAttrs_list PySem.F.slot_list_append PySem.F.type_list_append mt_append (pe_v h1) (pa_cons (sE e v o.ok h3).1 pa_nil (star_cons h3 _ _)) attr_name (few1 h3) h2 (star_cons h3 _ _) rfl) rfl).imp fun D σ H ⟨H0, M0, M, env, eo, q⟩ => ?_
      simp only [evS] at q
      split at q
      · rename_i m ds ei
        obtain ⟨a, xs, g1, g2, g3, g4, g5⟩ := own_at eo ei
        refine ⟨_, g1, .inl ⟨rfl, xs, .inl (.inl g4)⟩, H0, M0, M, env, eo, (Sp.of eo q).imp fun r _ q v H1 s1 rv => ?_⟩
        obtain ⟨pr, es, q⟩ := sp_sto q
        split at q
        · rename_i hz
          have hz := of_decide_eq_true hz
          have q4 := s1 _ _ g4
          refine ⟨a, xs, v, rfl, rfl, q4, by rw [g5.length]; exact hz, ?_⟩
          obtain ⟨k, ev⟩ := (eo.up s1).mut (o := .lst (xs ++ [v])) (m' := m || pr.1) (d' := .list (ds ++ [pr.2])) ei g1 g2 g3 trivial
            (.lst upd_same ((dts_mut g2 q4 ((sm_dts s1 g5).wk fun _ => Lm.orl)).append (dts_mut g2 q4 (.cons ((rv.sto es).wk fun _ => Lm.orr) .nil))))
          exact q σ _ M k ((Evo.post s1).trans ev)
        · exact q.elim
      · exact q.elim
    · cases h
  | .ext i e, X, E, s, o, h => by
    simp only [okS] at h
    split at h
    · rename_i x p m ap v cp pos
      simp only [Bool.and_eq_true, decide_eq_true_eq] at h
      obtain ⟨⟨⟨h1, rfl⟩, h2⟩, h3⟩ := h
      refine (ps_expr (pe_bm PySem.F.plainAttrs_list PySem.F.slot_list_extend PySem.F.type_list_extend mt_extR (pe_v h1) (pa_cons (sE e v o.ok h3).1 pa_nil (star_cons h3 _ _)) attr_name (few1 h3) h2 (star_cons h3 _ _) rfl) rfl).imp fun D σ H ⟨H0, M0, M, env, eo, q⟩ => ?_
      simp only [evS] at q
      split at q
      · rename_i m ds ei
        obtain ⟨a, xs, g1, g2, g3, g4, g5⟩ := own_at eo ei
        refine ⟨_, g1, .inl ⟨rfl, xs, .inl (.inl g4)⟩, H0, M0, M, env, eo, (Sp.of eo q).imp fun r _ q v H1 s1 rv => ?_⟩
        split at q
        · rename_i es hd
          split at q
          · rename_i hz
            have hz := fits_le hz
            have q4 := s1 _ _ g4
            have c := rv.cn
            rw [hd] at c
            cases c with
            | @lst b zs _ r' s' =>
              refine ⟨a, b, xs, zs, rfl, rfl, q4, r', by rw [g5.length, s'.length]; exact hz, ?_⟩
              obtain ⟨k, ev⟩ := (eo.up s1).mut (o := .lst (xs ++ zs)) (m' := m || r.m) (d' := .list (ds ++ es)) ei g1 g2 g3 trivial
                (.lst upd_same ((dts_mut g2 q4 ((sm_dts s1 g5).wk fun _ => Lm.orl)).append (dts_mut g2 q4 (s'.wk fun _ => Lm.orr))))
              exact q σ _ M k ((Evo.post s1).trans ev)
          · exact q.elim
        · exact q.elim
      · exact q.elim
    · cases h
  | .put i kx e, X, E, s, o, h => by
    simp only [okS] at h
    split at h
    · rename_i x p y p2 v pos
      simp only [Bool.and_eq_true] at h
      obtain ⟨⟨h1, h2⟩, h3⟩ := h
      refine (ps_asg (sE e v o.ok h3).1 (pg_sub (pe_v h1) (sE kx y o.ok h2).1 set_list (sub_assign h2)) (show swapsWithSole [.Subscript (.Name x p) y p2] v pos.line X.env = pure false from @sw_sub v (.Name x p) y p2 pos.line X.env) sw_store_sub rfl).imp fun D σ H ⟨H0, M0, M, env, eo, q⟩ => ?_
      simp only [evS] at q
      refine ⟨H0, M0, M, env, eo, (Sp.of eo q).imp fun r _ q v H1 s1 rv => ?_⟩
      obtain ⟨pr, es, q⟩ := sp_sto q
      split at q
      · rename_i m ds ei
        obtain ⟨a, xs, g1, g2, g3, g4, g5⟩ := own_at eo ei
        refine ⟨_, g1, H0, M0, M, env, eo.up s1, (Sp.of (eo.up s1) q).imp fun r2 _ q u H2 s2 rv2 => ?_⟩
        have s12 := s1.trans s2
        split at q
        · rename_i n hn
          split at q
          · rename_i j hj
            have q4 := s12 _ _ g4
            refine ⟨a, xs, n, j, rfl, sc_sc rv2 hn, q4, by rw [g5.length]; exact hj, ?_⟩
            obtain ⟨k, ev⟩ := (eo.up s12).mut (o := .lst (xs.set j v)) (m' := m || pr.1) (d' := .list (ds.set j pr.2)) ei g1 g2 g3 trivial
              (.lst upd_same (((dts_mut g2 q4 ((sm_dts s12 g5).wk fun _ => Lm.orl))).set (dts_mut g2 q4 (.cons ((sm_dt s2 (rv.sto es)).wk fun _ => Lm.orr) .nil)).cons_inv.1 j))
            exact q σ _ M k ((Evo.post s12).trans ev)
          · exact q.elim
        · exact q.elim
      · exact q.elim
    · cases h
  | .ins i kx e, X, E, s, o, h => by
    simp only [okS] at h
    split at h
    · rename_i x p m ap y v cp pos
      simp only [Bool.and_eq_true, decide_eq_true_eq] at h
      obtain ⟨⟨⟨⟨h1, rfl⟩, h2⟩, h3⟩, h4⟩ := h
      refine (ps_expr (pe_bm PySem.F.plainAttrs_list PySem.F.slot_list_insert PySem.F.type_list_insert mt_insert (pe_v h1) (pa_cons (sE kx y o.ok h3).1 (pa_cons (sE e v o.ok h4).1 pa_nil (star_cons h4 _ _)) (star_cons h3 _ _)) attr_name (by rw [star_cons h3, star_cons h4]; rfl) h2 (star_cons h3 _ _) (back_any _ _ (by rw [star_cons h4]; rfl))) rfl).imp fun D σ H ⟨H0, M0, M, env, eo, q⟩ => ?_
      simp only [evS] at q
      split at q
      · rename_i m ds ei
        obtain ⟨a, xs, g1, g2, g3, g4, g5⟩ := own_at eo ei
        refine ⟨_, g1, .inl ⟨rfl, xs, .inl (.inl g4)⟩, H0, M0, M, env, eo, (Sp.of eo q).imp fun r2 _ q v2 H1 s1 rv2 => ?_⟩
        split at q
        · rename_i n hn
          refine ⟨H0, M0, M, env, eo.up s1, (Sp.of (eo.up s1) q).imp fun r _ q v H2 s2 rv => ?_⟩
          obtain ⟨pr, es, q⟩ := sp_sto q
          have s12 := s1.trans s2
          split at q
          · rename_i hz
            simp only [Bool.and_eq_true, decide_eq_true_eq] at hz
            have q4 := s12 _ _ g4
            refine ⟨a, xs, n, v, rfl, by rw [sc_sc rv2 hn], q4, by rw [g5.length]; exact hz.1.1, hz.1.2, hz.2, ?_⟩
            have k5 := dts_mut (o := .lst (xs.take n.toNat ++ [v] ++ xs.drop n.toNat)) g2 q4 ((sm_dts s12 g5).wk (L' := Lm H0 M (m || pr.1)) fun _ => Lm.orl)
            obtain ⟨k, ev⟩ := (eo.up s12).mut (o := .lst (xs.take n.toNat ++ [v] ++ xs.drop n.toNat)) (m' := m || pr.1) (d' := .list (ds.take n.toNat ++ [pr.2] ++ ds.drop n.toNat)) ei g1 g2 g3 trivial
              (.lst upd_same (((k5.take n.toNat).append (dts_mut g2 q4 (.cons ((rv.sto es).wk fun _ => Lm.orr) .nil))).append (k5.drop n.toNat)))
            exact q σ _ M k ((Evo.post s12).trans ev)
          · exact q.elim
        · exact q.elim
      · exact q.elim
    · cases h
  | .popS z i, X, E, s, o, h => by
    simp only [okS] at h
    split at h
    · rename_i x p y p2 m ap cp pos
      simp only [Bool.and_eq_true, decide_eq_true_eq] at h
      obtain ⟨⟨⟨h1, h2⟩, rfl⟩, h3⟩ := h
      refine (ps_asg (pe_bm0 PySem.F.plainAttrs_list PySem.F.slot_list_pop PySem.F.type_list_pop mt_pop (pe_v h2) attr_name h3) (pg_ok o.ok.nd o.fnIn h1) rfl rfl rfl).imp fun D σ H ⟨H0, M0, M, env, eo, q⟩ => ?_
      simp only [evS] at q
      split at q
      · rename_i m ds ei
        obtain ⟨a, xs, g1, g2, g3, g4, g5⟩ := own_at eo ei
        split at q
        · rename_i d hd
          obtain ⟨v, hv, t⟩ := g5.get hd
          split at q
          · exact q.elim
          · rename_i hne
            refine ⟨_, g1, .inl ⟨rfl, xs, .inl (.inl g4)⟩, a, xs, v, rfl, rfl, g4, by rw [g5.length]; exact hv, ?_⟩
            obtain ⟨k, ev⟩ := eo.mut (o := .lst xs.dropLast) (m' := m) (d' := .list ds.dropLast) ei g1 g2 g3 trivial
              (.lst upd_same (by rw [List.dropLast_eq_take, List.dropLast_eq_take, g5.length]; exact (dts_mut g2 g4 g5).take _))
            unfold setSl at q
            split at q
            · rename_i hz
              exact q _ _ M (k.set_fr (dts_mut g2 g4 (.cons t .nil)).cons_inv.1 hz) ev
            · exact q.elim
        · exact q.elim
      · exact q.elim
    · cases h
  | .popI z i kx, X, E, s, o, h => by
    simp only [okS] at h
    split at h
    · rename_i x p y p2 m ap v cp pos
      simp only [Bool.and_eq_true, decide_eq_true_eq] at h
      obtain ⟨⟨⟨⟨h1, h2⟩, rfl⟩, h3⟩, h4⟩ := h
      refine (ps_asg (pe_bm PySem.F.plainAttrs_list PySem.F.slot_list_pop PySem.F.type_list_pop mt_popAt (pe_v h2) (pa_cons (sE kx v o.ok h4).1 pa_nil (star_cons h4 _ _)) attr_name (few1 h4) h3 (star_cons h4 _ _) rfl) (pg_ok o.ok.nd o.fnIn h1) rfl rfl rfl).imp fun D σ H ⟨H0, M0, M, env, eo, q⟩ => ?_
      simp only [evS] at q
      split at q
      · rename_i m ds ei
        obtain ⟨a, xs, g1, g2, g3, g4, g5⟩ := own_at eo ei
        refine ⟨_, g1, .inl ⟨rfl, xs, .inl (.inl g4)⟩, H0, M0, M, env, eo, (Sp.of eo q).imp fun r _ q w H1 s1 rv => ?_⟩
        split at q
        · rename_i n hn
          split at q
          · rename_i hsm
            split at q
            · rename_i j hj
              split at q
              · rename_i d hd
                have q4 := s1 _ _ g4
                have g6 := sm_dts s1 g5
                obtain ⟨v', hv, t⟩ := g6.get hd
                split at q
                · exact q.elim
                · rename_i hne
                  simp only [sm, Bool.and_eq_true, decide_eq_true_eq] at hsm
                  refine ⟨a, xs, n, j, v', rfl, by rw [sc_sc rv hn], q4, by omega, by omega, by rw [g5.length]; exact (ixN_seq hj).1, hv, ?_⟩
                  obtain ⟨k, ev⟩ := (eo.up s1).mut (o := .lst (xs.eraseIdx j)) (m' := m) (d' := .list (ds.eraseIdx j)) ei g1 g2 g3 trivial
                    (.lst upd_same (by rw [List.eraseIdx_eq_take_drop_succ, List.eraseIdx_eq_take_drop_succ]; exact ((dts_mut g2 q4 g6).take _).append ((dts_mut g2 q4 g6).drop _)))
                  unfold setSl at q
                  split at q
                  · rename_i hz
                    exact q _ _ M (k.set_fr (dts_mut g2 q4 (.cons t .nil)).cons_inv.1 hz) ((Evo.post s1).trans ev)
                  · exact q.elim
              · exact q.elim
            · exact q.elim
          · exact q.elim
        · exact q.elim
      · exact q.elim
    · cases h
  | .raise_ x m, X, E, s, o, h => by
    simp only [okS] at h
    split at h
    · simp only [Bool.and_eq_true, decide_eq_true_eq] at h
      obtain ⟨⟨⟨rfl, rfl⟩, h1⟩, h2⟩ := h
      exact (o.rz x m _ _ _ _ _ h1 (gl_of h2).1).imp fun D σ H ⟨H0, M0, M, env, eo, q⟩ => fun C hC => q C H hC eo.same
    · cases h
  | .dput i kx e, X, E, s, o, h => by
    simp only [okS] at h
    split at h
    · rename_i x p y p2 v pos
      simp only [Bool.and_eq_true, Bool.not_eq_true'] at h
      obtain ⟨⟨⟨h1, h2⟩, h3⟩, h4⟩ := h
      have hu1 : X.A.units + 1 < cLine := by have := o.ok.hu; omega
      refine (ps_dput hu1 (pe_v h1) (sE kx y o.ok h2).1 (sE e v o.ok h3).1 (show swapsWith v (some (.Subscript (.Name x p) y p2)) pos.line X.env = pure false from @sw_sub v (.Name x p) y p2 pos.line X.env)).imp fun D σ H ⟨H0, M0, M, env, eo, q⟩ => ?_
      simp only [evS] at q
      refine ⟨H0, M0, M, env, eo, (Sp.of eo q).imp fun r _ q v H1 s1 rv => ?_⟩
      obtain ⟨pr, es, q⟩ := sp_sto q
      split at q
      · rename_i m ds ei
        obtain ⟨a, g1, g2, g3, g4⟩ := eo.sl i _ ei
        cases g4 with
        | @dK kvs _ g4 hk hv =>
          refine ⟨_, g1, H0, M0, M, env, eo.up s1, (Sp.of (eo.up s1) q).imp fun r2 _ q u H2 s2 rv2 => ?_⟩
          have s12 := s1.trans s2
          split at q
          · rename_i key hkey
            split at q
            · rename_i hz
              simp only [Bool.and_eq_true, Bool.not_eq_true', decide_eq_true_eq] at hz
              obtain ⟨hz1, hz2⟩ := hz
              have c2 := rv2.cn
              rw [hkey] at c2
              cases c2
              have q4 := s12 _ _ g4
              have hnone : valV kvs (.inr key) = none := by
                have := has_val hk key
                rw [hz1] at this
                cases e : valV kvs (.inr key) with
                | none => rfl
                | some _ => rw [e] at this; cases this
              have hlen : kvs.length = ds.length := by
                have := congrArg List.length hk
                simpa using this.symm
              refine ⟨a, _, rfl, DPut.k (k := .inr key) q4 (by rw [hlen]; exact hz2), ?_⟩
              rw [putK_new _ hnone]
              have dvm : ∀ {ws : List V} {fs : List (En.D × En.D)} {mm : Bool}, Dvs H2 (Lm H0 M mm) ws fs → Dvs (upd H2 a (.dK (kvs ++ [(.inr key, v)]))) (Lm H0 M mm) ws fs := fun {ws fs mm} t => Dvs.go (fun b w l e => ⟨by rw [upd_ne (fun z => l.1 (by rw [z]; exact g2))]; exact e, l⟩) (fun b ys r => by
                have nb : b ≠ a := fun z => by
                  rw [z] at r
                  rcases r with r | ⟨o', r⟩
                  · rw [q4] at r; cases r
                  · rw [q4] at r; cases r
                rcases r with r | ⟨o', r⟩
                · exact .inl (by rw [upd_ne nb]; exact r)
                · exact .inr ⟨o', by rw [upd_ne nb]; exact r⟩) fs ws t
              obtain ⟨k', ev⟩ := (eo.up s12).mut (o := .dK (kvs ++ [(.inr key, v)])) (m' := m || pr.1) (d' := .dict (ds ++ [(.str key, pr.2)])) ei g1 g2 g3 trivial
                (.dK upd_same (by rw [List.map_append, List.map_append, hk]; rfl) (by
                  rw [List.map_append]
                  refine Dvs.app (dvm (Dvs.wk (fun _ => Lm.orl) (sm_dvs s12 hv))) ?_
                  have t2 : Dvs H2 (Lm H0 M (m || pr.1)) [v] [((.str key : En.D), pr.2)] := .cons ((sm_dt s2 (rv.sto es)).wk fun _ => Lm.orr) .nil
                  have t3 := dvm t2
                  cases t3 with
                  | cons t _ => exact t))
              exact q σ _ M k' ((Evo.post s12).trans ev)
            · exact q.elim
          · exact q.elim
      · exact q.elim
    · cases h
  | .mov i j, X, E, s, o, h => by
    simp only [okS] at h
    split at h
    · simp only [Bool.and_eq_true] at h
      obtain ⟨w1, w2⟩ := tg_loc h.1
      refine (ps_set o.ok.nd w1 w2 (pe_v h.2) rfl (.inl (o.fn _))).imp fun D σ H ⟨H0, M0, M, env, eo, q⟩ => ?_
      simp only [evS] at q
      split at q
      · rename_i m d e
        split at q
        · rename_i hc
          obtain ⟨a, h1, h2, h3, t⟩ := eo.sl j _ e
          exact ⟨_, h1, q _ H M (eo.move e h1 hc.1 hc.2) (Evo.refl _ _)⟩
        · exact q.elim
      · exact q.elim
    · cases h
  | .try_ b tb n sx, X, E, s, o, h => by
    simp only [okS] at h
    refine (try_ok o h).imp fun D σ H ⟨H0, M0, M, env, eo, q⟩ => ?_
    simp only [evS] at q
    exact ⟨H0, M0, M, env, eo, q⟩
  | .brk, X, E, s, o, h => by
    simp only [okS] at h
    split at h
    · exact ps_break.imp fun D σ H ⟨H0, M0, M, env, eo, q⟩ => q σ H M eo (Evo.refl _ _)
    · cases h
  | .cnt, X, E, s, o, h => by
    simp only [okS] at h
    split at h
    · exact ps_continue.imp fun D σ H ⟨H0, M0, M, env, eo, q⟩ => q σ H M eo (Evo.refl _ _)
    · cases h
  | .never, X, E, s, o, h => ⟨fun pins s' σ H D I ⟨H0, M0, M, env, eo, q⟩ => by
      simp only [evS] at q
      exact q.elim⟩
theorem sSs : ∀ (m : MSs) {X : Cx} {E : XK} (s : List Stmt), OkS X Γ E k ex → okSs ex X.N X.env.scope m s = true → PSs X s (tSs Γ fuel E X.mg m)
  | .nil, X, E, s, o, h => by
    simp only [okSs] at h
    split at h
    · exact pss_nil.imp fun D σ H ⟨H0, M0, M, env, eo, q⟩ => q σ H M eo (Evo.refl _ _)
    · cases h
  | .cons m r, X, E, s, o, h => by
    simp only [okSs] at h
    split at h
    · simp only [Bool.and_eq_true] at h
      refine (pss_cons (sS m _ o h.1) (sSs r _ o h.2)).imp fun D σ H ⟨H0, M0, M, env, eo, q⟩ => ?_
      simp only [evSs] at q
      exact ⟨H0, M0, M, env, eo, q.then fun env' σ' H' M' q' k' e' => ⟨H0, M0, M', env', k', q'.base e'⟩⟩
    · cases h
  | .frz i r, X, E, s, o, h => by
    simp only [okSs] at h
    refine (sSs r s o h).imp fun D σ H ⟨H0, M0, M, env, eo, q⟩ => ?_
    simp only [evSs] at q
    split at q
    · rename_i m d e
      obtain ⟨a, h1, h2, h3, t⟩ := eo.sl i _ e
      obtain ⟨k, ev⟩ := eo.freeze e h1 h3 t
      exact ⟨H0, M0, _, _, k, q.base ev⟩
    · exact q.elim
end
end
end En
set_option Elab.async false
set_option linter.all false
set_option maxRecDepth 100000
set_option maxHeartbeats 4000000
namespace En
open PySem PySem.Spec PyProof.Rows L2

/-! ### a def by its mini-text -/
theorem startE_len {n : Nat} {ds : List D} (h : ds.length ≤ n) : (startE n ds).length = n := by
  unfold startE
  rw [List.length_append, List.length_map, List.length_replicate]
  omega
theorem start_len {N : List Str} {vs : List V} (h : vs.length ≤ N.length) : (L2.start N vs).length = N.length := by
  unfold L2.start
  rw [List.length_append, List.length_map, List.length_replicate]
  omega
theorem env_start {H : Hp} {M : AS} {N : List Str} {vs : List V} {ds : List D} (hM : ∀ a, M a → ∃ o, H a = some o ∧ Mut (some o)) (h : Dts H (fun a => ¬ M a) vs ds) (hl : vs.length ≤ N.length) : EnvOk H M H M (L2.start N vs) (startE N.length ds) := by
  have hd : ds.length ≤ N.length := by rw [← h.length]; exact hl
  refine ⟨by rw [start_len hl, startE_len hd], Same.refl _, fun a m => ⟨m, fun z => ?_⟩, hM, fun i s e => ?_, fun i j m d m' d' a e1 => ?_⟩
  · obtain ⟨o, q, _⟩ := hM a m
    rw [z] at q
    cases q
  · by_cases hi : i < ds.length
    · unfold startE at e
      rw [List.getElem?_append_left (by simpa using hi), List.getElem?_map] at e
      cases e1 : ds[i]? with
      | none => rw [e1] at e; cases e
      | some d =>
        rw [e1] at e
        cases e
        obtain ⟨v, e2, t⟩ := h.get e1
        refine ⟨v, ?_, ?_⟩
        · unfold L2.start
          rw [List.getElem?_append_left (by rw [List.length_map, h.length]; exact hi), List.getElem?_map, e2]
          rfl
        · cases q : imm d with
          | true => exact Dt.imm d v q t
          | false => exact t.wk fun a l => ⟨l, fun z => by cases z⟩
    · unfold startE at e
      rw [List.getElem?_append_right (by simpa using hi)] at e
      have := List.mem_of_getElem? e
      rw [List.mem_replicate] at this
      rw [this.2]
      trivial
  · unfold startE at e1
    have := List.mem_of_getElem? e1
    rw [List.mem_append, List.mem_map, List.mem_replicate] at this
    rcases this with ⟨d, _, z⟩ | ⟨_, z⟩ <;> cases z

section
variable {P : Program} {w : World} {K : PySem.W.Frag} {mg : Str → Option Value} {base : Heap}
/-- the builtins' names stand unshadowed -/
def Blt (mg : Str → Option Value) : Prop := ∀ f : Str, f ∈ ([("len" : Str), "list", "tuple", "sum", "min", "max", "int", "any", "all", "sorted", "isinstance", "range", "zip", "enumerate", "reversed", "str", "bool", "set", "dict"] : List Str) → mg f = none
/-- the table of the defs -/
def FnsOk (P : Program) (w : World) (K : PySem.W.Frag) (mg : Str → Option Value) (base : Heap) (k : Nat) (Γ : FT) : Prop :=
  ∀ f n g, Γ f = some (n, g) → ∃ fa fd ps, FnOk P w K mg base (L2.CX P w) k fa fd ps (spG mg n g) ∧ mg f = some (.ref fa) ∧ PySem.W.keepIn K (.ref fa) = true ∧ Binds K fd ps []
/-- the refusals -/
structure RzOk (ex : Ex) (mg : Str → Option Value) (P : Program) (w : World) (K : PySem.W.Frag) (base : Heap) : Prop where
  rz : ∀ (X : Cx) (E : XK) (x m : Str) (j : Nat) (p p2 p3 pos : Pos), X.prog = P → X.w = w → X.K = K → X.mg = mg → X.calm = true → Takes X (fun c d _ H => E c d H) → x ∈ ex.rz → Gl X x → PS X (.Raise (some (.Call (.Name x p) [.Constant (.str m) j p2] [] p3)) none pos) (fun _ _ H => ∀ C, mg x = some (.ref C) → E (.ref C) none H)
  cl : ∀ T, T ∈ ex.cl → ∃ cT, mg T = some (.ref cT)
  xf : ∀ x, x ∈ ex.xs → ∀ C, mg x = some (.ref C) → XFact ex mg P w K base x C
theorem sp_run {E : XK} {H : Hp} {M : AS} {Q : VK} {Γ : FT} {fuel : Nat} {f : MF} {ds : List D} (h : Rp E mg H (runF Γ fuel f ds) fun r => ∀ v H', Same H H' → RvOk H M H H' v r → Q v H') :
    Sp E mg { nx := fun _ H' => Q .non H', rt := Q } H M H M (evSs Γ fuel f.body (startE f.slots ds)) := by
  unfold runF at h
  split at h <;> rename_i e <;> rw [e]
  · exact h
  · exact h
  · exact fun σ' H' M' k _ => h _ _ k.same (show RvOk _ _ _ _ V.non (.fr false .none) from .non)
  · refine fun v H' M' s m q => h v H' s ?_
    have wk : ∀ {m' : Bool} (a : Addr), Lm H M' m' a → Lm H M m' a := fun {m'} a l => ⟨fun z => l.1 (m a z), l.2⟩
    cases ‹Rv› with
    | fr b d => exact Dt.wk wk q
    | ow b d =>
      obtain ⟨a, x, y, z, u, t⟩ := q
      exact ⟨a, x, y, fun z' => z (m a z'), u, t.wk fun c l => ⟨wk c l.1, l.2⟩⟩
    | bo b d => exact q.wk wk
  · exact h.elim
  · exact h.elim
theorem fn_ok {x qual : Str} {st : Stmt} {fa : Addr} {fd : FuncData} {N ps : List Str} {k : Nat} {Γ : FT} {ex : Ex} (F : Fun K x qual st fa fd) (S : FnScope N ps (defScope st)) (mf : MF) (hn : mf.slots = N.length) (hp : ps.length ≤ N.length) (fuel : List D → Nat)
    (hc : okSs ex N (defScope st) mf.body (defBody st) = true) (blt : Blt mg) (fns : FnsOk P w K mg base k Γ) (rz : RzOk ex mg P w K base) :
    FnOk P w K mg base (L2.CX P w) (k + 3) fa fd ps (spG mg ps.length fun ds => runF Γ (fuel ds) mf ds) := by
  refine F.okX S (fun vs H Q E h => h.1) (fun cdv A outer s H vs Q E hr h => ?_)
  obtain ⟨hl, M, ds, hM, hD, h⟩ := h
  have tk : Takes (cxOf (L2.CX P w) P w K mg base N qual (defScope st) fa cdv A outer s H E) (fun c d _ H => E c d H) := takes_of rfl rfl rfl rfl
  have o : OkS (cxOf (L2.CX P w) P w K mg base N qual (defScope st) fa cdv A outer s H E) Γ E k ex :=
    ⟨⟨rfl, S.nd, by have := hr.un; show (A.deeper _).units + 65 < cLine; omega, hr, tk, blt, fns⟩, fun _ => rfl, S.kind, passes_of rfl, fun x m j p p2 p3 pos hx hg => rz.rz _ E x m j p p2 p3 pos rfl rfl rfl rfl rfl tk hx hg, rfl, rfl, rz.cl, rz.xf⟩
  refine ⟨_, sSs mf.body (defBody st) o hc, H, M, M, startE mf.slots ds, ?_, sp_run h⟩
  rw [hn]
  exact env_start hM hD (by rw [hl]; exact hp)
end
end En
set_option Elab.async false
set_option linter.all false
set_option maxRecDepth 100000
set_option maxHeartbeats 4000000
namespace En
open PySem PySem.Spec PyProof.Rows L2

/-! ### a table of defs, one behind the other -/
/-- a def stands at the top -/
def Has (K : PySem.W.Frag) (mg : Str → Option Value) (x : Str) (st : Stmt) (ps : List Str) : Prop := ∃ fa fd, Fun K x x st fa fd ∧ mg x = some (.ref fa) ∧ Binds K fd ps []
def put (Γ : FT) (x : Str) (n : Nat) (g : List D → R Rv) : FT := fun y => if y = x then some (n, g) else Γ y
theorem put_self {Γ : FT} {x : Str} {n : Nat} {g : List D → R Rv} : put Γ x n g x = some (n, g) := if_pos rfl
theorem put_ne {Γ : FT} {x y : Str} {n : Nat} {g : List D → R Rv} (h : decide (y = x) = false) : put Γ x n g y = Γ y := if_neg (of_decide_eq_false h)
section
variable {P : Program} {w : World} {K : PySem.W.Frag} {mg : Str → Option Value} {base : Heap}
theorem fns0 : FnsOk P w K mg base 0 fun _ => none := fun f n g h => nomatch h
theorem fns_put {x : Str} {st : Stmt} {N ps : List Str} {k : Nat} {Γ : FT} {ex : Ex} (G : FnsOk P w K mg base k Γ) (h : Has K mg x st ps) (S : FnScope N ps (defScope st)) (mf : MF) (fuel : List D → Nat)
    (hc : (decide (mf.slots = N.length) && decide (ps.length ≤ N.length) && okSs ex N (defScope st) mf.body (defBody st)) = true) (blt : Blt mg) (rz : RzOk ex mg P w K base) :
    FnsOk P w K mg base (k + 3) (put Γ x ps.length fun ds => runF Γ (fuel ds) mf ds) := by
  obtain ⟨fa, fd, F, hm, hb⟩ := h
  simp only [Bool.and_eq_true, decide_eq_true_eq] at hc
  have F2 := fn_ok (P := P) (w := w) (base := base) F S mf hc.1.1 hc.1.2 fuel hc.2 blt G rz
  intro f n g e
  unfold put at e
  split at e
  · rename_i e1
    subst e1
    cases e
    exact ⟨fa, fd, ps, F2, hm, F.kp, hb⟩
  · obtain ⟨fa, fd, ps, F3, q⟩ := G f n g e
    exact ⟨fa, fd, ps, F3.mono (by omega), q⟩
theorem rz0 : RzOk (exL []) mg P w K base := ⟨(fun X E x m j p p2 p3 pos _ _ _ _ _ _ hx => nomatch hx), (fun T h => nomatch h), (fun x h => nomatch h)⟩
/-- the law's own promise -/
def spLaw (K : PySem.W.Frag) : L2.Sp := fun vs H Q _ => ∃ (a : Addr) (ns : List Int), vs = [.ref a] ∧ SqL K H a (ns.map V.int) ∧ ns.length ≤ 63 ∧ Only H ∧ ∀ H', Q (.bl true) H'
def noList (K : PySem.W.Frag) : Bool := K.all fun p => !(p.2.cls == .type "list")
theorem noList_lookup {K : PySem.W.Frag} (h : noList K = true) {a : Addr} {o : Obj} (e : K.lookup a = some o) : o.cls ≠ .type "list" := by
  unfold noList at h
  induction K with
  | nil => cases e
  | cons p r ih =>
    obtain ⟨b, x⟩ := p
    rw [List.all_cons, Bool.and_eq_true] at h
    rw [List.lookup_cons] at e
    cases hb : a == b with
    | true =>
      rw [hb] at e
      cases e
      intro z
      have := h.1
      simp [z] at this
    | false =>
      rw [hb] at e
      exact ih h.2 e
theorem ints_dts2 {H : Hp} {L : AS} : ∀ ns : List Int, Dts H L (ns.map V.int) (ns.map PyData.int)
  | [] => .nil
  | n :: ns => .cons (.int n) (ints_dts2 ns)
theorem ok_and {a b c : Bool} (h : (a && b && c) = true) : c = true := by simp only [Bool.and_eq_true] at h; exact h.2
theorem law_one {k : Nat} {fa : Addr} {fd : FuncData} {ps : List Str} {g : List D → R Rv} (F : FnOk P w K mg base (L2.CX P w) k fa fd ps (spG mg ps.length g)) (nl : noList K = true) (hp : ps.length = 1 := by rfl)
    (hg : ∀ ns : List Int, ns.length ≤ 63 → g [.list (ns.map .int)] = .ok (.fr false (.bool true))) : FnOk P w K mg base (L2.CX P w) k fa fd ps (spLaw K) := by
  refine F.imp fun vs H Q E h => ?_
  obtain ⟨a, ns, rfl, hS, hl, hO, q⟩ := h
  refine ⟨hp.symm, fun _ => False, [.list (ns.map .int)], fun a h => h.elim, ?_, ?_⟩
  · rcases hS with r | ⟨o, its, n, e, hc, _⟩
    · exact .cons (.lst (fun h => h) r (ints_dts2 ns)) .nil
    · exact absurd hc (noList_lookup nl e)
  · rw [hg ns hl]
    intro v H' s rv
    have rv : Dt H' _ v (.bool true) := rv
    cases rv
    exact q H'
theorem cx_end {P : Program} {w : World} {H : Hp} {s s' : Shared} {e : Value} (h : L2.CX P w [] H s (fun _ _ _ => False) e s') : False := by
  obtain ⟨_, _, _, _, _, _, _, _, _, _, _, _, z⟩ := h
  exact z
end
end En
set_option Elab.async false
set_option linter.all false
set_option maxRecDepth 100000
set_option maxHeartbeats 4000000
namespace En
open PySem PySem.Spec PyProof.Rows L2

/-! ### the run's laws, for simp: they fire on what is told, not on what is open -/
section
variable {α β : Type} {Γ : FT} {fuel : Nat} {env : List Sl}
@[simp] theorem bind_ok' (a : α) (f : α → R β) : (R.ok a).bind f = f a := (rfl)
@[simp] theorem bind_err' (x : Str) (f : α → R β) : (R.err x : R α).bind f = .err x := (rfl)
@[simp] theorem bind_ite (c : Prop) [Decidable c] (a b : R α) (f : α → R β) : (if c then a else b).bind f = if c then a.bind f else b.bind f := by split <;> rfl
@[simp] theorem then_next (e : List Sl) (f : List Sl → Fl) : (Fl.next e).then f = f e := (rfl)
@[simp] theorem then_ret (r : Rv) (f : List Sl → Fl) : (Fl.ret r).then f = .ret r := (rfl)
@[simp] theorem then_err (r : Str) (f : List Sl → Fl) : (Fl.err r).then f = .err r := (rfl)
@[simp] theorem then_brk (e : List Sl) (f : List Sl → Fl) : (Fl.brk e).then f = .brk e := (rfl)
@[simp] theorem then_cnt (e : List Sl) (f : List Sl → Fl) : (Fl.cnt e).then f = .cnt e := (rfl)
@[simp] theorem then_ite (c : Prop) [Decidable c] (a b : Fl) (f : List Sl → Fl) : (if c then a else b).then f = if c then a.then f else b.then f := by split <;> rfl
@[simp] theorem of_ok' (a : α) (f : α → Fl) : Fl.of (.ok a) f = f a := (rfl)
@[simp] theorem of_err' (x : Str) (f : α → Fl) : Fl.of (.err x : R α) f = .err x := (rfl)
@[simp] theorem of_ite (c : Prop) [Decidable c] (a b : R α) (f : α → Fl) : Fl.of (if c then a else b) f = if c then Fl.of a f else Fl.of b f := by split <;> rfl
-- statements
@[simp] theorem ss_nil : evSs Γ fuel .nil env = .next env := by rw [evSs]
@[simp] theorem ss_cons (s : MS) (r : MSs) : evSs Γ fuel (.cons s r) env = (evS Γ fuel s env).then fun e => evSs Γ fuel r e := by rw [evSs]
def frzR (o : Option Sl) (i : Nat) (env : List Sl) (f : List Sl → Fl) : Fl := match o with
  | some (.ow m d) => f (env.set i (.fr m d))
  | _ => .bad
@[simp] theorem frzR_ow (m : Bool) (d : D) (i : Nat) (f : List Sl → Fl) : frzR (some (.ow m d)) i env f = f (env.set i (.fr m d)) := (rfl)
@[simp] theorem ss_frz (i : Nat) (r : MSs) : evSs Γ fuel (.frz i r) env = frzR env[i]? i env (evSs Γ fuel r) := by rw [evSs]; rfl
@[simp] theorem s_skip : evS Γ fuel .skip env = .next env := by rw [evS]
@[simp] theorem s_set (i : Nat) (e : ME) (own : Bool) : evS Γ fuel (.set i e own) env = .of (evE Γ env e) (put1 own i env) := by rw [evS]
def unpR (x : Rv) (l : List Nat) (env : List Sl) : Fl := if isBo x then .bad else match x.d with
  | .tuple ds => .of (setAll x.m l ds env) .next
  | .list ds => .of (setAll x.m l ds env) .next
  | _ => .bad
@[simp] theorem unpR_lf (m : Bool) (ds : List D) (l : List Nat) : unpR (.fr m (.list ds)) l env = .of (setAll m l ds env) .next := (rfl)
@[simp] theorem unpR_lo (m : Bool) (ds : List D) (l : List Nat) : unpR (.ow m (.list ds)) l env = .of (setAll m l ds env) .next := (rfl)
@[simp] theorem unpR_fr (m : Bool) (ds : List D) (l : List Nat) : unpR (.fr m (.tuple ds)) l env = .of (setAll m l ds env) .next := (rfl)
@[simp] theorem s_unp (l : List Nat) (e : ME) : evS Γ fuel (.unp l e) env = .of (evE Γ env e) fun x => unpR x l env := by rw [evS]; rfl
@[simp] theorem s_par (i j : Nat) (a b : ME) : evS Γ fuel (.par i j a b) env = .of (evEs Γ env (.cons a (.cons b .nil))) fun rs => .of (stos rs) fun p => .of (setAll p.1 [i, j] p.2 env) .next := by rw [evS]
def retR (x : Rv) : Fl := if isBo x then .bad else .ret x
@[simp] theorem retR_fr (m : Bool) (d : D) : retR (.fr m d) = .ret (.fr m d) := (rfl)
@[simp] theorem retR_ow (m : Bool) (d : D) : retR (.ow m d) = .ret (.ow m d) := (rfl)
@[simp] theorem s_ret (e : ME) : evS Γ fuel (.ret e) env = .of (evE Γ env e) retR := by rw [evS]; rfl
@[simp] theorem s_retN : evS Γ fuel .retN env = .ret (.fr false .none) := by rw [evS]
def retoR (o : Option Sl) : Fl := match o with
  | some (.ow m d) => .ret (.ow m d)
  | _ => .bad
@[simp] theorem retoR_ow (m : Bool) (d : D) : retoR (some (.ow m d)) = .ret (.ow m d) := (rfl)
@[simp] theorem s_reto (i : Nat) : evS Γ fuel (.reto i) env = retoR env[i]? := by rw [evS]; rfl
def ifR (t : Bool) (a b : Fl) : Fl := if t then a else b
@[simp] theorem ifR_t (a b : Fl) : ifR true a b = a := (rfl)
@[simp] theorem ifR_f (a b : Fl) : ifR false a b = b := (rfl)
theorem ifR_dec (p : Prop) [Decidable p] (a b : Fl) : ifR (decide p) a b = if p then a else b := by unfold ifR; by_cases h : p <;> simp [h]
@[simp] theorem s_ife (c : ME) (a b : MSs) : evS Γ fuel (.ife c a b) env = .of ((evE Γ env c).bind truth) fun t => ifR t (evSs Γ fuel a env) (evSs Γ fuel b env) := by rw [evS]; rfl
@[simp] theorem s_for (g : MG) (it : MI) (b : MSs) : evS Γ fuel (.for_ g it b) env = .of (evI Γ env it) fun p => forR (fun d e => .of (bindG g p.1 d e) fun e' => evSs Γ fuel b e') p.2 env := by rw [evS]
@[simp] theorem s_whl (c : ME) (b : MSs) : evS Γ fuel (.whl c b) env = whlR (fun e => (evE Γ e c).bind truth) (fun e => evSs Γ fuel b e) fuel env := by rw [evS]
@[simp] theorem s_exp (e : ME) : evS Γ fuel (.exp e) env = .of (evE Γ env e) fun _ => .next env := by rw [evS]
def appR (o : Option Sl) (i : Nat) (env : List Sl) (x : R Rv) : Fl := match o with
    | some (.ow m (.list ds)) => .of x fun x => .of (sto x) fun p => if decide (ds.length < sizeLine) then .next (env.set i (.ow (m || p.1) (.list (ds ++ [p.2])))) else .bad
    | _ => .bad
@[simp] theorem appR_ow (m : Bool) (ds : List D) (i : Nat) (x : R Rv) : appR (some (.ow m (.list ds))) i env x = .of x fun x => .of (sto x) fun p => if ds.length < sizeLine then .next (env.set i (.ow (m || p.1) (.list (ds ++ [p.2])))) else .bad := by
  simp only [appR, decide_eq_true_eq]
@[simp] theorem s_app (i : Nat) (e : ME) : evS Γ fuel (.app i e) env = appR env[i]? i env (evE Γ env e) := by rw [evS]; rfl
def extR (o : Option Sl) (i : Nat) (env : List Sl) (x : R Rv) : Fl := match o with
    | some (.ow m (.list ds)) => .of x fun x => match x.d with
      | .list es => if fits (ds.length + es.length) then .next (env.set i (.ow (m || x.m) (.list (ds ++ es)))) else .bad
      | _ => .bad
    | _ => .bad
def extL (m : Bool) (ds : List D) (i : Nat) (env : List Sl) (m' : Bool) : D → Fl
  | .list es => if ds.length + es.length ≤ sizeLine then .next (env.set i (.ow (m || m') (.list (ds ++ es)))) else .bad
  | _ => .bad
@[simp] theorem extR_ow (m : Bool) (ds : List D) (i : Nat) (x : R Rv) : extR (some (.ow m (.list ds))) i env x = .of x fun x => extL m ds i env x.m x.d := by
  simp only [extR]
  congr 1
  funext x
  cases x.d <;> simp [extL, fits]
@[simp] theorem extL_list (m m' : Bool) (ds es : List D) (i : Nat) : extL m ds i env m' (.list es) = if ds.length + es.length ≤ sizeLine then .next (env.set i (.ow (m || m') (.list (ds ++ es)))) else .bad := (rfl)
@[simp] theorem s_ext (i : Nat) (e : ME) : evS Γ fuel (.ext i e) env = extR env[i]? i env (evE Γ env e) := by rw [evS]; rfl
def dputR (o : Option Sl) (i : Nat) (env : List Sl) (x : R Rv) (y : R Rv) : Fl := .of x fun x => .of (sto x) fun p => match o with
  | some (.ow m (.dict es)) => .of y fun y => match y.d with
    | .str key => if !hasS es key && decide (es.length < sizeLine) then .next (env.set i (.ow (m || p.1) (.dict (es ++ [(.str key, p.2)])))) else .bad
    | _ => .bad
  | _ => .bad
@[simp] theorem s_dput (i : Nat) (k e : ME) : evS Γ fuel (.dput i k e) env = dputR env[i]? i env (evE Γ env e) (evE Γ env k) := by rw [evS]; rfl
theorem dputR_tx {m m' mk' : Bool} {es : List (D × D)} {d : D} {i : Nat} {key : Str} (hi : imm d = true) (h1 : hasS es key = false) (h2 : es.length < sizeLine) : dputR (some (.ow m (.dict es))) i env (.ok (.fr m' d)) (.ok (.fr mk' (.str key))) = .next (env.set i (.ow m (.dict (es ++ [(.str key, d)])))) := by
  simp [dputR, Fl.of, sto, hi, h1, h2, Rv.d]
@[simp] theorem s_raise (x m : Str) : evS Γ fuel (.raise_ x m) env = .err x := by rw [evS]
@[simp] theorem s_never : evS Γ fuel .never env = .bad := by rw [evS]
@[simp] theorem s_brk : evS Γ fuel .brk env = .brk env := by rw [evS]
@[simp] theorem s_cnt : evS Γ fuel .cnt env = .cnt env := by rw [evS]
-- stores
@[simp] theorem put1_fr (i : Nat) (m : Bool) (d : D) : put1 false i env (.fr m d) = setSl env i (.fr m d) := (rfl)
@[simp] theorem put1_ow (i : Nat) (m : Bool) (d : D) : put1 true i env (.ow m d) = setSl env i (.ow m d) := (rfl)
@[simp] theorem put1_of (i : Nat) (m : Bool) (d : D) : put1 false i env (.ow m d) = setSl env i (.fr m d) := (rfl)
@[simp] theorem setSl_c (i : Nat) (s : Sl) : setSl env i s = if i < env.length then .next (env.set i s) else .bad := (rfl)
@[simp] theorem setAll_nil (m : Bool) : setAll m [] [] env = .ok env := (rfl)
@[simp] theorem setAll_cons (m : Bool) (i : Nat) (is : List Nat) (d : D) (ds : List D) : setAll m (i :: is) (d :: ds) env = if i < env.length then setAll m is ds (env.set i (.fr m d)) else .bad := (rfl)
@[simp] theorem bindG_n (i : Nat) (m : Bool) (d : D) : bindG (.n i) m d env = if i < env.length then .ok (env.set i (.fr m d)) else .bad := (rfl)
@[simp] theorem bindG_t (l : List Nat) (m : Bool) (ds : List D) : bindG (.t l) m (.tuple ds) env = setAll m l ds env := (rfl)
-- expressions
def getR (o : Option Sl) : R Rv := match o with
  | some (.fr m d) => .ok (.fr m d)
  | some (.ow m d) => .ok (.bo m d)
  | _ => .bad
@[simp] theorem getR_fr (m : Bool) (d : D) : getR (some (.fr m d)) = .ok (.fr m d) := (rfl)
@[simp] theorem getR_ow (m : Bool) (d : D) : getR (some (.ow m d)) = .ok (.bo m d) := (rfl)
@[simp] theorem e_v (i : Nat) : evE Γ env (.v i) = getR env[i]? := by rw [evE]; rfl
@[simp] theorem e_kn : evE Γ env .kn = .ok (.fr false .none) := by rw [evE]
@[simp] theorem e_kb (b : Bool) : evE Γ env (.kb b) = .ok (.fr false (.bool b)) := by rw [evE]
@[simp] theorem e_ki (b : Int) : evE Γ env (.ki b) = .ok (.fr false (.int b)) := by rw [evE]
@[simp] theorem e_ks (b : Str) : evE Γ env (.ks b) = .ok (.fr false (.str b)) := by rw [evE]
@[simp] theorem e_lst (es : MEs) : evE Γ env (.lst es) = (evEs Γ env es).bind fun rs => (stos rs).bind fun p => if p.2.length ≤ sizeLine then .ok (.ow p.1 (.list p.2)) else .bad := by rw [evE]; simp [fits]
@[simp] theorem e_tup (es : MEs) : evE Γ env (.tup es) = (evEs Γ env es).bind fun rs => (stos rs).bind fun p => if p.2.length ≤ sizeLine then .ok (.fr p.1 (.tuple p.2)) else .bad := by rw [evE]; simp [fits]
@[simp] theorem e_bin (op : Operator) (a b : ME) : evE Γ env (.bin op a b) = (evE Γ env a).bind fun x => (evE Γ env b).bind fun y => lift (x.m || y.m) (semBin op x.d y.d) := by rw [evE]
def negR : D → R Rv
  | .int i => .ok (.fr false (.int (-i)))
  | _ => .bad
@[simp] theorem negR_int (i : Int) : negR (.int i) = .ok (.fr false (.int (-i))) := (rfl)
@[simp] theorem e_neg (a : ME) : evE Γ env (.neg a) = (evE Γ env a).bind fun x => negR x.d := by rw [evE]; rfl
@[simp] theorem e_cmp (op : CmpOp) (a b : ME) : evE Γ env (.cmp op a b) = (evE Γ env a).bind fun x => (evE Γ env b).bind fun y => liftB (semCmp op x.d y.d) := by rw [evE]
def chnR (o : Option Bool) (z : R Rv) : R Rv := match o with
    | some true => z
    | some false => .ok (.fr false (.bool false))
    | none => .bad
@[simp] theorem chnR_t (z : R Rv) : chnR (some true) z = z := (rfl)
@[simp] theorem chnR_f (z : R Rv) : chnR (some false) z = .ok (.fr false (.bool false)) := (rfl)
@[simp] theorem chnR_dec (p : Prop) [Decidable p] (z : R Rv) : chnR (some (decide p)) z = if p then z else .ok (.fr false (.bool false)) := by by_cases h : p <;> simp [h]
@[simp] theorem e_chn (op op2 : CmpOp) (a b c : ME) : evE Γ env (.chn op op2 a b c) = (evE Γ env a).bind fun x => (evE Γ env b).bind fun y => chnR (semCmp op x.d y.d) ((evE Γ env c).bind fun z => liftB (semCmp op2 y.d z.d)) := by rw [evE]; rfl
@[simp] theorem e_bop (con : Bool) (es : MEs) : evE Γ env (.bop con es) = (evB Γ env con es).bind fun b => .ok (.fr false (.bool b)) := by rw [evE]
@[simp] theorem e_not (a : ME) : evE Γ env (.not_ a) = (evE Γ env a).bind fun x => (truth x).bind fun t => .ok (.fr false (.bool (!t))) := by rw [evE]
def itR (t : Bool) (a b : R Rv) : R Rv := if t then a else b
@[simp] theorem itR_t (a b : R Rv) : itR true a b = a := (rfl)
@[simp] theorem itR_f (a b : R Rv) : itR false a b = b := (rfl)
@[simp] theorem e_ite (c a b : ME) : evE Γ env (.ite c a b) = (evE Γ env c).bind fun x => (truth x).bind fun t => itR t (evE Γ env a) (evE Γ env b) := by rw [evE]; rfl
def ixR (m : Bool) (o : Option D) : R Rv := match o with
  | some d => .ok (mk m false d)
  | none => .bad
@[simp] theorem ixR_some (m : Bool) (d : D) : ixR m (some d) = .ok (mk m false d) := (rfl)
@[simp] theorem e_ix (a i : ME) : evE Γ env (.ix a i) = (evE Γ env a).bind fun x => (evE Γ env i).bind fun y => ixR x.m (semIx x.d y.d) := by
  rw [evE]
  congr 1
  funext x
  congr 1
  funext y
  cases semIx x.d y.d <;> rfl
@[simp] theorem e_sl (a : ME) (lo hi : MO) : evE Γ env (.sl a lo hi) = (evE Γ env a).bind fun x => (evO Γ env lo).bind fun l => (evO Γ env hi).bind fun h => lift x.m (semSl x.d l h) := by rw [evE]
@[simp] theorem e_bi (f : Str) (es : MEs) : evE Γ env (.bi f es) = (evEs Γ env es).bind fun rs => lift (anyM rs) (semBi f (rs.map Rv.d)) := by rw [evE]
@[simp] theorem e_isi (a : ME) (T : Str) : evE Γ env (.isi a T) = (evE Γ env a).bind fun x => liftB (semIsi x.d T) := by rw [evE]
@[simp] theorem e_mt (o : ME) (f : Str) (es : MEs) : evE Γ env (.mt o f es) = (evE Γ env o).bind fun x => if (isStr x.d).isSome then (evEs Γ env es).bind fun rs => lift (x.m || anyM rs) (semMt x.d f (rs.map Rv.d)) else .bad := by rw [evE]
@[simp] theorem isStr_str (x : Str) : isStr (.str x) = some x := (rfl)
def callQ (o : Option (Nat × (List D → R Rv))) (rs : List Rv) : R Rv := match o with
  | some (n, g) => if rs.length = n then (g (rs.map Rv.d)).bind (ans (rs.any isBo)) else .bad
  | none => .bad
@[simp] theorem callQ_some (n : Nat) (g : List D → R Rv) (rs : List Rv) : callQ (some (n, g)) rs = if rs.length = n then (g (rs.map Rv.d)).bind (ans (rs.any isBo)) else .bad := (rfl)
theorem e_dgt (i : Nat) (k d : ME) : evE Γ env (.dgt i k d) = (getSl env i).bind fun x => match x.d with
    | .dict es => (evE Γ env k).bind fun y => (evE Γ env d).bind fun z => match y.d with
      | .str key => match getS es key with
        | some v => .ok (mk x.m false v)
        | none => if isBo z then .bad else .ok z
      | _ => .bad
    | _ => .bad := by rw [evE] <;> rfl
def lixR (o : Option Int) : R Rv := match o with
  | some j => .ok (.fr false (.int j))
  | none => .bad
@[simp] theorem lixR_some (j : Int) : lixR (some j) = .ok (.fr false (.int j)) := (rfl)
def lixL (d : D) (y : R Rv) : R Rv := match d with
  | .list ds => y.bind fun y => lixR (semLix (.list ds) y.d)
  | _ => .bad
@[simp] theorem lixL_list (ds : List D) (y : R Rv) : lixL (.list ds) y = y.bind fun y => lixR (semLix (.list ds) y.d) := (rfl)
@[simp] theorem e_lix (a b : ME) : evE Γ env (.lix a b) = (evE Γ env a).bind fun x => lixL x.d (evE Γ env b) := by rw [evE]; rfl
theorem e_call {f : Str} {n : Nat} {g : List D → R Rv} (h : Γ f = some (n, g)) (es : MEs) : evE Γ env (.call f es) = (evEs Γ env es).bind fun rs => if rs.length = n then (g (rs.map Rv.d)).bind (ans (rs.any isBo)) else .bad := by rw [evE, h]
def lcT (Γ : FT) (env : List Sl) (g : MG) (c : MO) (elt : ME) (m : Bool) : D → R (Option (Bool × D)) := fun d => noErr ((bindG g m d env).bind fun env' => (evC Γ env' c).bind fun t => if t then ((evE Γ env' elt).bind sto).bind (fun q => .ok (some q)) else .ok none)
@[simp] theorem e_lc (g : MG) (it : MI) (c : MO) (elt : ME) : evE Γ env (.lc g it c elt) = (evI Γ env it).bind fun p => (lcR (lcT Γ env g c elt p.1) p.2).bind fun q => if p.2.length ≤ sizeLine then .ok (.ow q.1 (.list q.2)) else .bad := by
  rw [evE]; simp [fits]; rfl
def rvlR (x : Rv) : R Rv := match x.d with
  | .list ds => .ok (.ow x.m (.list ds.reverse))
  | _ => .bad
@[simp] theorem rvlR_fr (m : Bool) (ds : List D) : rvlR (.fr m (.list ds)) = .ok (.ow m (.list ds.reverse)) := (rfl)
@[simp] theorem rvlR_ow (m : Bool) (ds : List D) : rvlR (.ow m (.list ds)) = .ok (.ow m (.list ds.reverse)) := (rfl)
@[simp] theorem rvlR_bo (m : Bool) (ds : List D) : rvlR (.bo m (.list ds)) = .ok (.ow m (.list ds.reverse)) := (rfl)
@[simp] theorem e_rvl (a : ME) : evE Γ env (.rvl a) = (evE Γ env a).bind rvlR := by rw [evE]; rfl
def repR (y z : Str) (x : Rv) : R Rv := match x.d with
  | .str t => if t.length + (t.length + 1) * z.length ≤ 16777216 then .ok (.fr false (.str (Txt.replace t y z))) else .bad
  | _ => .bad
@[simp] theorem e_rep (a : ME) (y z : Str) : evE Γ env (.rep a y z) = (evE Γ env a).bind (repR y z) := by rw [evE]; rfl
def srkR (g : List D → R Rv) (x : Rv) : R Rv := match x.d with
  | .list ds => (keysR g ds).bind fun ks => .ok (.ow x.m (.list ((srtK (ks.zip ds)).map (·.2))))
  | _ => .bad
@[simp] theorem srkR_fr (g : List D → R Rv) (m : Bool) (ds : List D) : srkR g (.fr m (.list ds)) = (keysR g ds).bind fun ks => .ok (.ow m (.list ((srtK (ks.zip ds)).map (·.2)))) := (rfl)
@[simp] theorem srkR_ow (g : List D → R Rv) (m : Bool) (ds : List D) : srkR g (.ow m (.list ds)) = (keysR g ds).bind fun ks => .ok (.ow m (.list ((srtK (ks.zip ds)).map (·.2)))) := (rfl)
@[simp] theorem srkR_bo (g : List D → R Rv) (m : Bool) (ds : List D) : srkR g (.bo m (.list ds)) = (keysR g ds).bind fun ks => .ok (.ow m (.list ((srtK (ks.zip ds)).map (·.2)))) := (rfl)
theorem e_srk {f : Str} {g : List D → R Rv} (h : Γ f = some (1, g)) (a : ME) : evE Γ env (.srk a f) = (evE Γ env a).bind (srkR g) := by rw [evE, h]; rfl
@[simp] theorem es_nil : evEs Γ env .nil = .ok [] := by rw [evEs]
@[simp] theorem es_cons (e : ME) (es : MEs) : evEs Γ env (.cons e es) = (evE Γ env e).bind fun x => (evEs Γ env es).bind fun xs => .ok (x :: xs) := by rw [evEs]
@[simp] theorem eb_one (con : Bool) (e : ME) : evB Γ env con (.cons e .nil) = (evE Γ env e).bind truth := by rw [evB]
def bopR (t con : Bool) (r : R Bool) : R Bool := if t = con then r else .ok t
@[simp] theorem bopR_tt (r : R Bool) : bopR true true r = r := (rfl)
@[simp] theorem bopR_ff (r : R Bool) : bopR false false r = r := (rfl)
@[simp] theorem bopR_tf (r : R Bool) : bopR true false r = .ok true := (rfl)
@[simp] theorem bopR_ft (r : R Bool) : bopR false true r = .ok false := (rfl)
@[simp] theorem bopR_and (t u : Bool) : bopR t true (.ok u) = .ok (t && u) := by cases t <;> rfl
@[simp] theorem bopR_or (t u : Bool) : bopR t false (.ok u) = .ok (t || u) := by cases t <;> rfl
@[simp] theorem eb_cons (con : Bool) (e e2 : ME) (es : MEs) : evB Γ env con (.cons e (.cons e2 es)) = ((evE Γ env e).bind truth).bind fun t => bopR t con (evB Γ env con (.cons e2 es)) := by
  rw [evB]
  · rfl
  · intro h; cases h
@[simp] theorem eo_no : evO Γ env .no = .ok none := by rw [evO]
def intR : D → R (Option Int)
  | .int i => .ok (some i)
  | _ => .bad
@[simp] theorem intR_int (i : Int) : intR (.int i) = .ok (some i) := (rfl)
@[simp] theorem eo_so (e : ME) : evO Γ env (.so e) = (evE Γ env e).bind fun x => intR x.d := by rw [evO]; rfl
@[simp] theorem ec_no : evC Γ env .no = .ok true := by rw [evC]
@[simp] theorem ec_so (e : ME) : evC Γ env (.so e) = (evE Γ env e).bind truth := by rw [evC]
-- iterables
def itmR (m : Bool) (o : Option (List D)) : R (Bool × List D) := match o with
  | some ds => .ok (m, ds)
  | none => .bad
@[simp] theorem itmR_some (m : Bool) (ds : List D) : itmR m (some ds) = .ok (m, ds) := (rfl)
@[simp] theorem ei_e (a : ME) : evI Γ env (.e a) = (evE Γ env a).bind fun x => if isBo x then .bad else itmR x.m (itemsOf x.d) := by
  rw [evI]
  rfl
def rg1 : D → R (Bool × List D)
  | .int n => if -(2 ^ 62) ≤ n ∧ n < 2 ^ 62 then .ok (false, rngD 0 n.toNat) else .bad
  | _ => .bad
theorem rg1_nat (n : Nat) (h : n < 2 ^ 62) : rg1 (.int n) = .ok (false, rngD 0 n) := by
  have e : (-(2 ^ 62) ≤ (n : Int) ∧ (n : Int) < 2 ^ 62) := by omega
  simp only [rg1, if_pos e, Int.toNat_natCast]
theorem rg1_int (n : Int) (h : 0 ≤ n ∧ n < 2 ^ 62) : rg1 (.int n) = .ok (false, rngD 0 n.toNat) := by
  have e : (-(2 ^ 62) ≤ n ∧ n < 2 ^ 62) := by omega
  simp only [rg1, if_pos e]
@[simp] theorem ei_r1 (a : ME) : evI Γ env (.r1 a) = (evE Γ env a).bind fun x => rg1 x.d := by
  rw [evI]
  congr 1
  funext x
  cases x.d <;> simp [rg1, sm]
def rg2 : D → D → R (Bool × List D)
  | .int i, .int j => if (-(2 ^ 62) ≤ i ∧ i < 2 ^ 62) ∧ (-(2 ^ 62) ≤ j ∧ j < 2 ^ 62) then .ok (false, rngD i (j - i).toNat) else .bad
  | _, _ => .bad
@[simp] theorem rg2_int (i j : Int) : rg2 (.int i) (.int j) = if (-(2 ^ 62) ≤ i ∧ i < 2 ^ 62) ∧ (-(2 ^ 62) ≤ j ∧ j < 2 ^ 62) then .ok (false, rngD i (j - i).toNat) else .bad := (rfl)
@[simp] theorem ei_r2 (a b : ME) : evI Γ env (.r2 a b) = (evE Γ env a).bind fun x => (evE Γ env b).bind fun y => rg2 x.d y.d := by
  rw [evI]
  congr 1
  funext x
  congr 1
  funext y
  cases x.d <;> cases y.d <;> simp [rg2, sm]
def zipR (x y : Rv) : R (Bool × List D) := if isBo x || isBo y then .bad else match itemsOf x.d, itemsOf y.d with
    | some ds, some es => .ok (x.m || y.m, List.zipWith (fun d e => .tuple [d, e]) ds es)
    | _, _ => .bad
theorem zipR_ok {x y : Rv} {ds es : List D} (h1 : isBo x = false) (h2 : isBo y = false) (e1 : itemsOf x.d = some ds) (e2 : itemsOf y.d = some es) : zipR x y = .ok (x.m || y.m, List.zipWith (fun d e => .tuple [d, e]) ds es) := by
  unfold zipR
  rw [h1, h2, e1, e2]
  rfl
@[simp] theorem ei_zip (a b : ME) : evI Γ env (.zip a b) = (evE Γ env a).bind fun x => (evE Γ env b).bind fun y => zipR x y := by rw [evI]; rfl
def enumR (x : Rv) : R (Bool × List D) := if isBo x then .bad else match x.d with
    | .list ds => .ok (x.m, enumD 0 ds)
    | .str z => .ok (x.m, enumD 0 (z.cps.toList.map fun c => .str ⟨#[c]⟩))
    | _ => .bad
@[simp] theorem enumR_fr (m : Bool) (ds : List D) : enumR (.fr m (.list ds)) = .ok (m, enumD 0 ds) := (rfl)
@[simp] theorem enumR_ow (m : Bool) (ds : List D) : enumR (.ow m (.list ds)) = .ok (m, enumD 0 ds) := (rfl)
@[simp] theorem enumR_str (m : Bool) (z : Str) : enumR (.fr m (.str z)) = .ok (m, enumD 0 (z.cps.toList.map fun c => .str ⟨#[c]⟩)) := (rfl)
@[simp] theorem ei_enum (a : ME) : evI Γ env (.enum a) = (evE Γ env a).bind fun x => enumR x := by rw [evI]; rfl
def revR (x : Rv) : R (Bool × List D) := if isBo x then .bad else match x.d with
    | .list ds => .ok (x.m, ds.reverse)
    | _ => .bad
@[simp] theorem revR_fr (m : Bool) (ds : List D) : revR (.fr m (.list ds)) = .ok (m, ds.reverse) := (rfl)
@[simp] theorem revR_ow (m : Bool) (ds : List D) : revR (.ow m (.list ds)) = .ok (m, ds.reverse) := (rfl)
@[simp] theorem ei_rev (a : ME) : evI Γ env (.rev a) = (evE Γ env a).bind fun x => revR x := by rw [evI]; rfl
end
/-! values -/
@[simp] theorem rd_fr (m : Bool) (d : D) : Rv.d (.fr m d) = d := (rfl)
@[simp] theorem rd_ow (m : Bool) (d : D) : Rv.d (.ow m d) = d := (rfl)
@[simp] theorem rd_bo (m : Bool) (d : D) : Rv.d (.bo m d) = d := (rfl)
@[simp] theorem rm_fr (m : Bool) (d : D) : Rv.m (.fr m d) = m := (rfl)
@[simp] theorem rm_ow (m : Bool) (d : D) : Rv.m (.ow m d) = m := (rfl)
@[simp] theorem rm_bo (m : Bool) (d : D) : Rv.m (.bo m d) = m := (rfl)
@[simp] theorem bo_fr (m : Bool) (d : D) : isBo (.fr m d) = false := (rfl)
@[simp] theorem bo_ow (m : Bool) (d : D) : isBo (.ow m d) = false := (rfl)
@[simp] theorem bo_bo (m : Bool) (d : D) : isBo (.bo m d) = true := (rfl)
@[simp] theorem lift_some (m nw : Bool) (d : D) : lift m (some (nw, d)) = .ok (mk m nw d) := (rfl)
@[simp] theorem liftB_some (b : Bool) : liftB (some b) = .ok (.fr false (.bool b)) := (rfl)
@[simp] theorem mk_new (m : Bool) (d : D) : mk m true d = .ow m d := (rfl)
@[simp] theorem mk_int (m : Bool) (d : Int) : mk m false (.int d) = .fr false (.int d) := by cases m <;> rfl
@[simp] theorem mk_str (m : Bool) (d : Str) : mk m false (.str d) = .fr false (.str d) := by cases m <;> rfl
@[simp] theorem mk_bool (m : Bool) (d : Bool) : mk m false (.bool d) = .fr false (.bool d) := by cases m <;> rfl
@[simp] theorem mk_none (m : Bool) : mk m false .none = .fr false .none := by cases m <;> rfl
@[simp] theorem mk_list (m : Bool) (d : List D) : mk m false (.list d) = .fr m (.list d) := by cases m <;> rfl
@[simp] theorem mk_tup (m : Bool) (d : List D) : mk m false (.tuple d) = .fr m (.tuple d) := by cases m <;> rfl
@[simp] theorem mk_f (d : D) : mk false false d = .fr false d := (rfl)
@[simp] theorem imm_int (i : Int) : imm (.int i) = true := by simp [imm]
@[simp] theorem imm_str (i : Str) : imm (.str i) = true := by simp [imm]
@[simp] theorem imm_bool (i : Bool) : imm (.bool i) = true := by simp [imm]
@[simp] theorem imm_none : imm .none = true := by simp [imm]
@[simp] theorem imm_list (l : List D) : imm (.list l) = false := by rw [imm]
@[simp] theorem imm_tup (l : List D) : imm (.tuple l) = imms l := by rw [imm]
@[simp] theorem imms_nil : imms [] = true := by rw [imms]
@[simp] theorem imms_cons (d : D) (l : List D) : imms (d :: l) = (imm d && imms l) := by rw [imms]
@[simp] theorem sto_fr (m : Bool) (d : D) : sto (.fr m d) = .ok (m && !imm d, d) := (rfl)
@[simp] theorem sto_ow (m : Bool) (d : D) : sto (.ow m d) = .ok (m && !imm d, d) := (rfl)
@[simp] theorem stos_nil : stos [] = .ok (false, []) := (rfl)
@[simp] theorem stos_cons (r : Rv) (rs : List Rv) : stos (r :: rs) = (sto r).bind fun p => (stos rs).bind fun q => .ok (p.1 || q.1, p.2 :: q.2) := (rfl)
@[simp] theorem anyM_nil : anyM [] = false := (rfl)
@[simp] theorem anyM_cons (r : Rv) (rs : List Rv) : anyM (r :: rs) = (r.m || anyM rs) := (rfl)
@[simp] theorem truth_b (m b : Bool) : truth (.fr m (.bool b)) = .ok b := (rfl)
@[simp] theorem ans_int (l m : Bool) (d : Int) : ans l (.fr m (.int d)) = .ok (.fr false (.int d)) := by cases l <;> cases m <;> rfl
@[simp] theorem ans_str (l m : Bool) (d : Str) : ans l (.fr m (.str d)) = .ok (.fr false (.str d)) := by cases l <;> cases m <;> rfl
@[simp] theorem ans_bool (l m : Bool) (d : Bool) : ans l (.fr m (.bool d)) = .ok (.fr false (.bool d)) := by cases l <;> cases m <;> rfl
@[simp] theorem ans_none (l m : Bool) : ans l (.fr m .none) = .ok (.fr false .none) := by cases l <;> cases m <;> rfl
@[simp] theorem ans_fr (l : Bool) (d : D) : ans l (.fr false d) = .ok (.fr false d) := by cases l <;> rfl
@[simp] theorem ans_nl (m : Bool) (d : D) : ans false (.fr m d) = .ok (.fr (m && !imm d) d) := (rfl)
@[simp] theorem ans_ow (l : Bool) (d : List D) : ans l (.ow false (.list d)) = .ok (.ow false (.list d)) := by cases l <;> rfl
@[simp] theorem ans_own (m : Bool) (d : List D) : ans false (.ow m (.list d)) = .ok (.ow (m && !imms d) (.list d)) := (rfl)
@[simp] theorem noErr_ok' {α : Type} (a : α) : noErr (.ok a) = .ok a := (rfl)
end En
set_option Elab.async false
set_option linter.all false
set_option maxRecDepth 100000
set_option maxHeartbeats 4000000
namespace En
open PySem PySem.Spec PyProof.Rows L2

/-! ### texts as lists of signs -/
abbrev Tx := List Nat
def tx (l : Tx) : D := .str ⟨l.toArray⟩
theorem tx_eq (l : Tx) : tx l = .str ⟨l.toArray⟩ := rfl
theorem str_tx (x : Str) : (PyData.str x : D) = tx x.cps.toList := by
  unfold tx
  rw [Array.toArray_toList]
theorem tx_inj {a b : Tx} : tx a = tx b ↔ a = b := by
  unfold tx
  constructor
  · intro h
    injection h with h
    injection h with h
    simpa using h
  · intro h; rw [h]
@[simp] theorem imm_tx (l : Tx) : imm (tx l) = true := imm_str _
@[simp] theorem mk_tx (m : Bool) (l : Tx) : mk m false (tx l) = .fr false (tx l) := mk_str _ _
@[simp] theorem ans_tx (b m : Bool) (l : Tx) : ans b (.fr m (tx l)) = .ok (.fr false (tx l)) := ans_str _ _ _
@[simp] theorem isStr_tx (l : Tx) : isStr (tx l) = some ⟨l.toArray⟩ := (rfl)
@[simp] theorem items_tx (l : Tx) : itemsOf (tx l) = some (l.map fun c => tx [c]) := by
  show some ((l.toArray).toList.map _) = _
  simp [tx]
@[simp] theorem items_list (l : List D) : itemsOf (.list l) = some l := (rfl)
@[simp] theorem items_tup (l : List D) : itemsOf (.tuple l) = some l := (rfl)
@[simp] theorem enumR_tx (m : Bool) (l : Tx) : enumR (.fr m (tx l)) = .ok (m, enumD 0 (l.map fun c => tx [c])) := by
  show enumR (.fr m (.str ⟨l.toArray⟩)) = _
  rw [enumR_str]
  simp [tx]
-- operators
@[simp] theorem add_int (i j : Int) : semBin .Add (.int i) (.int j) = some (false, .int (i + j)) := (rfl)
@[simp] theorem sub_int (i j : Int) : semBin .Sub (.int i) (.int j) = some (false, .int (i - j)) := (rfl)
theorem mul_int {i j : Int} (h : (-(2 ^ 64) < i ∧ i < 2 ^ 64) ∨ (-(2 ^ 64) < j ∧ j < 2 ^ 64)) : semBin .Mult (.int i) (.int j) = some (false, .int (i * j)) := by
  simp only [semBin, Bool.or_eq_true, Bool.and_eq_true, decide_eq_true_eq]
  rw [if_pos h]
theorem div_int {i j : Int} (h : 0 < j ∧ j < 1073741824) : semBin .FloorDiv (.int i) (.int j) = some (false, .int (i / j)) := by
  simp only [semBin, Bool.and_eq_true, decide_eq_true_eq]
  rw [if_pos h]
theorem mod_int {i j : Int} (h : 0 < j) : semBin .Mod (.int i) (.int j) = some (false, .int (i % j)) := by
  simp only [semBin, decide_eq_true_eq]
  rw [if_pos h]
theorem add_tx {a b : Tx} (h : a.length + b.length ≤ sizeLine) : semBin .Add (tx a) (tx b) = some (false, tx (a ++ b)) := by
  have e : fits ((⟨a.toArray⟩ : Str).length + (⟨b.toArray⟩ : Str).length) = true := decide_eq_true (by simpa [Str.length] using h)
  show (if fits ((⟨a.toArray⟩ : Str).length + (⟨b.toArray⟩ : Str).length) = true then some (false, PyData.str ((⟨a.toArray⟩ : Str) ++ (⟨b.toArray⟩ : Str))) else none) = _
  rw [if_pos e]
  congr 2
  show PyData.str ⟨a.toArray ++ b.toArray⟩ = .str ⟨(a ++ b).toArray⟩
  simp
theorem add_list {a b : List D} (h : a.length + b.length ≤ sizeLine) : semBin .Add (.list a) (.list b) = some (true, .list (a ++ b)) := by
  have e : fits (a.length + b.length) = true := decide_eq_true h
  show (if fits (a.length + b.length) = true then _ else _) = _
  rw [if_pos e]
theorem mul_tx {a : Tx} {n : Nat} (h : a.length * n ≤ sizeLine) (hn : n < 2 ^ 63) : semBin .Mult (tx a) (.int n) = some (false, tx (List.replicate n a).flatten) := by
  have e : (decide (-(2 ^ 63) ≤ (n : Int)) && decide ((n : Int) < 2 ^ 63) && fits ((⟨a.toArray⟩ : Str).length * (n : Int).toNat)) = true := by
    simp only [Bool.and_eq_true, decide_eq_true_eq, fits]
    refine ⟨⟨by omega, by omega⟩, ?_⟩
    simpa [Str.length] using h
  simp only [semBin, tx]
  rw [if_pos e]
  simp
@[simp] theorem lt_int (i j : Int) : semCmp .Lt (.int i) (.int j) = some (decide (i < j)) := (rfl)
@[simp] theorem le_int (i j : Int) : semCmp .LtE (.int i) (.int j) = some (decide (i ≤ j)) := (rfl)
@[simp] theorem gt_int (i j : Int) : semCmp .Gt (.int i) (.int j) = some (decide (j < i)) := (rfl)
@[simp] theorem ge_int (i j : Int) : semCmp .GtE (.int i) (.int j) = some (decide (j ≤ i)) := (rfl)
@[simp] theorem cmp_eq (a b : D) : semCmp .Eq a b = eqO a b := (rfl)
@[simp] theorem cmp_ne (a b : D) : semCmp .NotEq a b = (eqO a b).map (!·) := (rfl)
@[simp] theorem cmp_in (a b : D) : semCmp .In a b = inO a b := (rfl)
@[simp] theorem cmp_nin (a b : D) : semCmp .NotIn a b = (inO a b).map (!·) := (rfl)
@[simp] theorem cmp_is (a b : D) : semCmp .Is a b = isO a b := (rfl)
@[simp] theorem cmp_isn (a b : D) : semCmp .IsNot a b = (isO a b).map (!·) := (rfl)
@[simp] theorem eq_int (i j : Int) : eqO (.int i) (.int j) = some (decide (i = j)) := by
  show some (decide (V.int i = V.int j)) = _
  congr 1
  simp
@[simp] theorem eq_bool (i j : Bool) : eqO (.bool i) (.bool j) = some (decide (i = j)) := by
  show some (decide (V.bl i = V.bl j)) = _
  congr 1
  simp
@[simp] theorem eq_str (i j : Str) : eqO (.str i) (.str j) = some (decide (i = j)) := by
  show some (decide (V.str i = V.str j)) = _
  congr 1
  simp
@[simp] theorem eq_tx (a b : Tx) : eqO (tx a) (tx b) = some (decide (a = b)) := by
  unfold tx
  rw [eq_str]
  congr 1
  simp
@[simp] theorem is_true (b : Bool) : isO (.bool b) (.bool true) = some b := by cases b <;> rfl
@[simp] theorem is_false (b : Bool) : isO (.bool b) (.bool false) = some (!b) := by cases b <;> rfl
theorem isi_bool (d : D) : semIsi d "bool" = some (match d with | .bool _ => true | _ => false) := by
  unfold semIsi
  rw [if_neg (by decide), if_pos rfl]
  all_goals (cases d <;> rfl)
@[simp] theorem isi_bool_b (b : Bool) : semIsi (.bool b) "bool" = some true := isi_bool _
@[simp] theorem isi_str_tx (b : Tx) : semIsi (tx b) "str" = some true := by simp [semIsi, tx]
-- builtins
@[simp] theorem bi_len' (ds : List D) : semBi "len" ds = s_len ds := by simp [semBi]
@[simp] theorem bi_int' (ds : List D) : semBi "int" ds = s_int ds := by
  unfold semBi
  rw [if_neg (by decide), if_neg (by decide), if_neg (by decide), if_neg (by decide), if_neg (by decide), if_neg (by decide), if_pos rfl]
@[simp] theorem len_list (l : List D) : s_len [.list l] = some (false, .int l.length) := (rfl)
@[simp] theorem len_tup (l : List D) : s_len [.tuple l] = some (false, .int l.length) := (rfl)
theorem len_tx {l : Tx} (h : l.length ≤ sizeLine) : s_len [tx l] = some (false, .int l.length) := by
  have e : fits (⟨l.toArray⟩ : Str).length = true := decide_eq_true (by simpa [Str.length] using h)
  show (if fits (⟨l.toArray⟩ : Str).length = true then some (false, PyData.int ((⟨l.toArray⟩ : Str).length)) else none) = _
  rw [if_pos e]
  simp [Str.length]
theorem ix_list {l : List D} {i : Nat} {d : D} (h : l[i]? = some d) : semIx (.list l) (.int i) = some d := atI_nat h
theorem ix_tup {l : List D} {i : Nat} {d : D} (h : l[i]? = some d) : semIx (.tuple l) (.int i) = some d := atI_nat h
theorem ix_tx {l : Tx} {i : Nat} {c : Nat} (hl : l.length ≤ sizeLine) (h : l[i]? = some c) : semIx (tx l) (.int i) = some (tx [c]) := by
  have e : fits (⟨l.toArray⟩ : Str).length = true := decide_eq_true (by simpa [Str.length] using hl)
  show (if fits (⟨l.toArray⟩ : Str).length = true then (atI (⟨l.toArray⟩ : Str).cps.toList (i : Int)).map (fun c => PyData.str ⟨#[c]⟩) else none) = _
  rw [if_pos e]
  rw [atI_nat (v := c) (by simpa using h)]
  rfl
theorem sl_tx {l : Tx} (hl : l.length ≤ sizeLine) (a b : Option Int) : semSl (tx l) a b = some (false, tx (cutL l a b)) := by
  have e : fits (⟨l.toArray⟩ : Str).length = true := decide_eq_true (by simpa [Str.length] using hl)
  show (if fits (⟨l.toArray⟩ : Str).length = true then some (false, PyData.str ⟨(cutL (⟨l.toArray⟩ : Str).cps.toList a b).toArray⟩) else none) = _
  rw [if_pos e]
  simp [tx]
@[simp] theorem sl_list (l : List D) (a b : Option Int) : semSl (.list l) a b = some (true, .list (cutL l a b)) := (rfl)
@[simp] theorem sl_tup (l : List D) (a b : Option Int) : semSl (.tuple l) a b = some (false, .tuple (cutL l a b)) := (rfl)
theorem cut_to {α : Type} {l : List α} {k : Nat} : cutL l none (some (k : Int)) = l.take k := by
  unfold cutL
  rw [HT.sIx_none, HT.sIx_nat]
  simp [List.take_eq_take_iff]
theorem cut_from {α : Type} {l : List α} {k : Nat} : cutL l (some (k : Int)) none = l.drop k := by
  unfold cutL
  rw [HT.sIx_none, HT.sIx_nat]
  by_cases h : k ≤ l.length
  · rw [Nat.min_eq_left h, List.take_of_length_le (by rw [List.length_drop]; omega)]
  · rw [Nat.min_eq_right (by omega), List.drop_eq_nil_of_le (as := l) (i := k) (by omega)]
    simp
/-- join of single texts -/
theorem allO_tx : ∀ ts : List Tx, allO isStr (ts.map tx) = some (ts.map fun t => (⟨t.toArray⟩ : Str))
  | [] => rfl
  | t :: ts => by
    rw [List.map_cons, allO, allO_tx ts]
    rfl
theorem joinL_nil : ∀ ts : List (List Nat), TL.joinL [] ts = ts.flatten
  | [] => rfl
  | [t] => by simp [TL.joinL]
  | t :: u :: ts => by
    have := joinL_nil (u :: ts)
    simp [TL.joinL] at this ⊢
    exact this
theorem join_tx {ts : List Tx} (h : (ts.map List.length).sum ≤ sizeLine) : semMt (tx []) "join" [.list (ts.map tx)] = some (false, tx ts.flatten) := by
  have e0 : semMt (tx []) "join" [.list (ts.map tx)] = m_join (tx []) [.list (ts.map tx)] := by simp [semMt]
  rw [e0]
  show ((allO isStr (ts.map tx)).bind fun ys => if fits ((ys.map (·.length)).sum + ys.length * (⟨#[]⟩ : Str).length) = true then some (false, PyData.str ⟨(TL.joinL (⟨#[]⟩ : Str).cps.toList (ys.map TL.tl)).toArray⟩) else none) = _
  rw [allO_tx]
  simp only [Option.bind_some]
  have e2 : ((ts.map fun t => (⟨t.toArray⟩ : Str)).map (·.length)) = ts.map List.length := by
    rw [List.map_map]
    apply List.map_congr_left
    intro t _
    simp [Str.length]
  have e4 : fits ((ts.map List.length).sum + (ts.map fun t => (⟨t.toArray⟩ : Str)).length * (⟨#[]⟩ : Str).length) = true := decide_eq_true (by simpa [Str.length] using h)
  rw [e2, if_pos e4]
  have e3 : (ts.map fun t => (⟨t.toArray⟩ : Str)).map TL.tl = ts := by
    rw [List.map_map]
    conv => rhs; rw [← List.map_id ts]
    apply List.map_congr_left
    intro t _
    simp [TL.tl]
  rw [e3]
  show some (false, PyData.str ⟨(TL.joinL [] ts).toArray⟩) = _
  rw [joinL_nil]
  rfl
/-! ### loops -/
/-- over items, by what holds ahead of each -/
theorem for_inv {f : D → List Sl → Fl} (I : Nat → List Sl → Prop) : ∀ {ds : List D} {env : List Sl}, I 0 env → (∀ i d e, ds[i]? = some d → I i e → ∃ e', f d e = .next e' ∧ I (i + 1) e') → ∃ e', forR f ds env = .next e' ∧ I ds.length e' := by
  intro ds
  induction ds generalizing I with
  | nil => exact fun h _ => ⟨_, rfl, h⟩
  | cons d ds ih =>
    intro env h hs
    obtain ⟨e', h1, h2⟩ := hs 0 d env rfl h
    obtain ⟨e'', h3, h4⟩ := ih (fun i => I (i + 1)) h2 fun i d e hd => hs (i + 1) d e (by simpa using hd)
    refine ⟨e'', ?_, h4⟩
    show (match f d env with | .next e => forR f ds e | .cnt e => forR f ds e | .brk e => .next e | a => a) = _
    rw [h1]
    exact h3
/-- over items, where it may return -/
theorem for_ret {f : D → List Sl → Fl} (I : Nat → List Sl → Prop) (P : Fl → Prop) : ∀ {ds : List D} {env : List Sl}, I 0 env → (∀ i d e, ds[i]? = some d → I i e → (∃ e', f d e = .next e' ∧ I (i + 1) e') ∨ ∃ r, f d e = .ret r ∧ P (.ret r)) →
    (∃ e', forR f ds env = .next e' ∧ I ds.length e') ∨ ∃ r, forR f ds env = .ret r ∧ P (.ret r) := by
  intro ds
  induction ds generalizing I with
  | nil => exact fun h _ => .inl ⟨_, rfl, h⟩
  | cons d ds ih =>
    intro env h hs
    have eq : forR f (d :: ds) env = (match f d env with | .next e => forR f ds e | .cnt e => forR f ds e | .brk e => .next e | a => a) := rfl
    rcases hs 0 d env rfl h with ⟨e', h1, h2⟩ | ⟨r, h1, h2⟩
    · rw [eq, h1]
      exact ih (fun i => I (i + 1)) h2 fun i d e hd => hs (i + 1) d e (by simpa using hd)
    · rw [eq, h1]
      exact .inr ⟨r, rfl, h2⟩
/-- by a step on what the slots hold -/
theorem for_fold {α β : Type} {f : D → List Sl → Fl} {enc : β → D} (S : α → List Sl) (g : α → β → α) : ∀ {xs : List β} {a : α}, (∀ a x, x ∈ xs → f (enc x) (S a) = .next (S (g a x))) → forR f (xs.map enc) (S a) = .next (S (xs.foldl g a)) := by
  intro xs
  induction xs with
  | nil => exact fun _ => rfl
  | cons x xs ih =>
    intro a h
    show (match f (enc x) (S a) with | .next e => forR f (xs.map enc) e | .cnt e => forR f (xs.map enc) e | .brk e => .next e | a => a) = _
    rw [h a x List.mem_cons_self]
    exact ih fun a y hy => h a y (List.mem_cons_of_mem _ hy)
theorem lc_filter {β : Type} {f : D → R (Option (Bool × D))} {enc : β → D} {h : β → Option (Bool × D)} : ∀ {xs : List β}, (∀ x ∈ xs, f (enc x) = .ok (h x)) → lcR f (xs.map enc) = .ok (((xs.filterMap h).map (·.1)).any id, (xs.filterMap h).map (·.2)) := by
  intro xs
  induction xs with
  | nil => exact fun _ => rfl
  | cons x xs ih =>
    intro hh
    show (f (enc x)).bind _ = _
    rw [hh x List.mem_cons_self, bind_ok', ih fun y hy => hh y (List.mem_cons_of_mem _ hy)]
    cases e : h x with
    | none => simp [e]
    | some p => simp [e]
end En
set_option Elab.async false
set_option linter.all false
set_option maxRecDepth 100000
set_option maxHeartbeats 4000000
namespace En
open PySem PySem.Spec PyProof.Rows L2

/-! ### what is to hold behind a run -/
inductive RS {α : Type} (X : Str → Prop) : R α → (α → Prop) → Prop
  | ok {a : α} {Q : α → Prop} : Q a → RS X (.ok a) Q
  | err {x : Str} {Q : α → Prop} : X x → RS X (.err x) Q
inductive FS (X : Str → Prop) (B C : List Sl → Prop) (Q : Rv → Prop) : Fl → (List Sl → Prop) → Prop
  | next {e : List Sl} {N : List Sl → Prop} : N e → FS X B C Q (.next e) N
  | ret {r : Rv} {N : List Sl → Prop} : Q r → FS X B C Q (.ret r) N
  | brk {e : List Sl} {N : List Sl → Prop} : B e → FS X B C Q (.brk e) N
  | cnt {e : List Sl} {N : List Sl → Prop} : C e → FS X B C Q (.cnt e) N
  | err {x : Str} {N : List Sl → Prop} : X x → FS X B C Q (.err x) N
section
variable {α β : Type} {X : Str → Prop} {B C : List Sl → Prop} {Q : Rv → Prop} {N : List Sl → Prop}
@[simp] theorem rs_ok (a : α) (K : α → Prop) : RS X (.ok a) K = K a := propext ⟨fun h => by cases h; assumption, .ok⟩
@[simp] theorem rs_err (x : Str) (K : α → Prop) : RS X (.err x) K = X x := propext ⟨fun h => by cases h; assumption, .err⟩
@[simp] theorem rs_bad (K : α → Prop) : RS X (.bad : R α) K = False := propext ⟨fun h => (nomatch h), fun h => h.elim⟩
@[simp] theorem rs_bind (r : R α) (f : α → R β) (K : β → Prop) : RS X (r.bind f) K = RS X r fun a => RS X (f a) K := by
  cases r with
  | ok a => rw [rs_ok]; rfl
  | err x => rw [rs_err]; exact rs_err _ _
  | bad => rw [rs_bad]; exact rs_bad _
@[simp] theorem rs_ite (c : Prop) [Decidable c] (a b : R α) (K : α → Prop) : RS X (if c then a else b) K = if c then RS X a K else RS X b K := by split <;> rfl
@[simp] theorem rs_itR (t : Bool) (a b : R Rv) (K : Rv → Prop) : RS X (itR t a b) K = ((t = true → RS X a K) ∧ (t = false → RS X b K)) := by cases t <;> simp
@[simp] theorem rs_bopA (t : Bool) (r : R Bool) (K : Bool → Prop) : RS X (bopR t true r) K = ((t = true → RS X r K) ∧ (t = false → K false)) := by cases t <;> simp
@[simp] theorem rs_bopO (t : Bool) (r : R Bool) (K : Bool → Prop) : RS X (bopR t false r) K = ((t = false → RS X r K) ∧ (t = true → K true)) := by cases t <;> simp
theorem rs_imp {r : R α} {K K' : α → Prop} (h : RS X r K) (i : ∀ a, K a → K' a) : RS X r K' := by
  cases h with
  | ok h => exact .ok (i _ h)
  | err h => exact .err h
theorem rs_eq {r : R α} {K : α → Prop} (h : RS (fun _ => False) r K) : ∃ a, r = .ok a ∧ K a := by
  cases h with
  | ok h => exact ⟨_, rfl, h⟩
  | err h => exact h.elim
theorem rs_of {r : R α} {a : α} {K : α → Prop} (e : r = .ok a) (h : K a) : RS X r K := by rw [e]; exact .ok h
theorem rs_x {X' : Str → Prop} {r : R α} {K : α → Prop} (h : RS X r K) (i : ∀ x, X x → X' x) : RS X' r K := by
  cases h with
  | ok h => exact .ok h
  | err h => exact .err (i _ h)
@[simp] theorem fs_next (e : List Sl) : FS X B C Q (.next e) N = N e := propext ⟨fun h => by cases h; assumption, .next⟩
@[simp] theorem fs_ret (e : Rv) : FS X B C Q (.ret e) N = Q e := propext ⟨fun h => by cases h; assumption, .ret⟩
@[simp] theorem fs_brk (e : List Sl) : FS X B C Q (.brk e) N = B e := propext ⟨fun h => by cases h; assumption, .brk⟩
@[simp] theorem fs_cnt (e : List Sl) : FS X B C Q (.cnt e) N = C e := propext ⟨fun h => by cases h; assumption, .cnt⟩
@[simp] theorem fs_err (e : Str) : FS X B C Q (.err e) N = X e := propext ⟨fun h => by cases h; assumption, .err⟩
@[simp] theorem fs_bad : FS X B C Q .bad N = False := propext ⟨fun h => (nomatch h), fun h => h.elim⟩
@[simp] theorem fs_then (a : Fl) (f : List Sl → Fl) : FS X B C Q (a.then f) N = FS X B C Q a fun e => FS X B C Q (f e) N := by cases a <;> simp [Fl.then]
@[simp] theorem fs_of (r : R α) (f : α → Fl) : FS X B C Q (Fl.of r f) N = RS X r fun a => FS X B C Q (f a) N := by cases r <;> simp [Fl.of]
@[simp] theorem fs_if (t : Bool) (a b : Fl) : FS X B C Q (ifR t a b) N = ((t = true → FS X B C Q a N) ∧ (t = false → FS X B C Q b N)) := by cases t <;> simp
@[simp] theorem fs_ite (c : Prop) [Decidable c] (a b : Fl) : FS X B C Q (if c then a else b) N = if c then FS X B C Q a N else FS X B C Q b N := by split <;> rfl
theorem fs_imp {f : Fl} {N' : List Sl → Prop} (h : FS X B C Q f N) (i : ∀ e, N e → N' e) : FS X B C Q f N' := by
  cases h with
  | next h => exact .next (i _ h)
  | ret h => exact .ret h
  | brk h => exact .brk h
  | cnt h => exact .cnt h
  | err h => exact .err h
theorem fs_for {f : D → List Sl → Fl} (I : Nat → List Sl → Prop) : ∀ {ds : List D} {env : List Sl}, I 0 env → (∀ i d e, ds[i]? = some d → I i e → FS X N (I (i + 1)) Q (f d e) (I (i + 1))) → (∀ e, I ds.length e → N e) → FS X B C Q (forR f ds env) N := by
  intro ds
  induction ds generalizing I with
  | nil => exact fun h _ n => .next (n _ h)
  | cons d ds ih =>
    intro env h hs n
    have h1 := hs 0 d env rfl h
    have eq : forR f (d :: ds) env = (match f d env with | .next e => forR f ds e | .cnt e => forR f ds e | .brk e => .next e | a => a) := rfl
    rw [eq]
    have nx : ∀ e, I 1 e → FS X B C Q (forR f ds e) N := fun e he => ih (fun i => I (i + 1)) he (fun i d e hd => hs (i + 1) d e (by simpa using hd)) n
    cases e1 : f d env with
    | next e => rw [e1, fs_next] at h1; exact nx e h1
    | cnt e => rw [e1, fs_cnt] at h1; exact nx e h1
    | brk e => rw [e1, fs_brk] at h1; exact .next h1
    | ret r => rw [e1, fs_ret] at h1; exact .ret h1
    | err x => rw [e1, fs_err] at h1; exact .err h1
    | bad => rw [e1, fs_bad] at h1; exact h1.elim
theorem fs_whl {c : List Sl → R Bool} {f : List Sl → Fl} (I : Nat → List Sl → Prop) : ∀ {n : Nat} {m : Nat} {env : List Sl}, I m env → m < n →
    (∀ m e, I m e → RS X (c e) fun t => (t = true → FS X N (fun e' => ∃ k, k < m ∧ I k e') Q (f e) (fun e' => ∃ k, k < m ∧ I k e')) ∧ (t = false → N e)) → FS X B C Q (whlR c f n env) N := by
  intro n
  induction n with
  | zero => exact fun _ h => absurd h (Nat.not_lt_zero _)
  | succ n ih =>
    intro m env h hm hs
    have h1 := hs m env h
    show FS X B C Q (.of (c env) fun t => if t then match f env with
      | .next e => whlR c f n e
      | .cnt e => whlR c f n e
      | .brk e => .next e
      | a => a else .next env) N
    rw [fs_of]
    refine rs_imp h1 fun t ⟨ht, hf⟩ => ?_
    cases t with
    | false => exact .next (hf rfl)
    | true =>
      have h2 := ht rfl
      rw [if_pos rfl]
      have nx : ∀ e, (∃ k, k < m ∧ I k e) → FS X B C Q (whlR c f n e) N := fun e ⟨k, hk, hi⟩ => ih hi (by omega) hs
      cases e1 : f env with
      | next e => rw [e1, fs_next] at h2; exact nx e h2
      | cnt e => rw [e1, fs_cnt] at h2; exact nx e h2
      | brk e => rw [e1, fs_brk] at h2; exact .next h2
      | ret r => rw [e1, fs_ret] at h2; exact .ret h2
      | err x => rw [e1, fs_err] at h2; exact .err h2
      | bad => rw [e1, fs_bad] at h2; exact h2.elim
/-- a def's run -/
theorem rs_run {Γ : FT} {fuel : Nat} {f : MF} {ds : List D} {K : Rv → Prop} (h : FS X (fun _ => False) (fun _ => False) K (evSs Γ fuel f.body (startE f.slots ds)) fun _ => K (.fr false .none)) : RS X (runF Γ fuel f ds) K := by
  unfold runF
  cases e : evSs Γ fuel f.body (startE f.slots ds) with
  | bad => rw [e, fs_bad] at h; exact h.elim
  | err x => rw [e, fs_err] at h; exact .err h
  | next x => rw [e, fs_next] at h; exact .ok h
  | ret x => rw [e, fs_ret] at h; exact .ok h
  | brk x => rw [e, fs_brk] at h; exact h.elim
  | cnt x => rw [e, fs_cnt] at h; exact h.elim
/-- over a comprehension's items -/
theorem rs_lc {f : D → R (Option (Bool × D))} (I : Nat → Bool → List D → Prop) : ∀ {ds : List D} {K : Bool × List D → Prop}, I 0 false [] → (∀ i d m l, ds[i]? = some d → I i m l → RS X (f d) fun o => match o with
    | some p => I (i + 1) (m || p.1) (l ++ [p.2])
    | none => I (i + 1) m l) → (∀ m l, I ds.length m l → K (m, l)) → RS X (lcR f ds) K := by
  have gen : ∀ (ds : List D) (I : Nat → Bool → List D → Prop) (m0 : Bool) (l0 : List D) (K : Bool × List D → Prop), I 0 m0 l0 → (∀ i d m l, ds[i]? = some d → I i m l → RS X (f d) fun o => match o with
      | some p => I (i + 1) (m || p.1) (l ++ [p.2])
      | none => I (i + 1) m l) → (∀ m l, I ds.length m l → K (m, l)) → RS X (lcR f ds) fun q => K (m0 || q.1, l0 ++ q.2) := by
    intro ds
    induction ds with
    | nil => intro I m0 l0 K h _ n; simpa [lcR] using n _ _ h
    | cons d ds ih =>
      intro I m0 l0 K h hs n
      have h1 := hs 0 d m0 l0 rfl h
      show RS X ((f d).bind fun o => (lcR f ds).bind fun q => match o with | some p => .ok (p.1 || q.1, p.2 :: q.2) | none => .ok q) _
      rw [rs_bind]
      refine rs_imp h1 fun o ho => ?_
      rw [rs_bind]
      cases o with
      | none =>
        refine rs_imp (ih (fun i => I (i + 1)) m0 l0 K ho (fun i d m l hd => hs (i + 1) d m l (by simpa using hd)) n) fun q hq => .ok hq
      | some p =>
        refine rs_imp (ih (fun i => I (i + 1)) _ _ K ho (fun i d m l hd => hs (i + 1) d m l (by simpa using hd)) n) fun q hq => ?_
        refine .ok ?_
        show K (m0 || (p.1 || q.1), l0 ++ p.2 :: q.2)
        rw [← Bool.or_assoc, show l0 ++ p.2 :: q.2 = (l0 ++ [p.2]) ++ q.2 by simp]
        exact hq
  intro ds K h hs n
  have := gen ds I false [] K h hs n
  simpa using this
end
end En
set_option Elab.async false
set_option linter.all false
set_option maxRecDepth 100000
set_option maxHeartbeats 4000000
namespace En
open PySem PySem.Spec PyProof.Rows L2

/-! ### written texts -/
theorem mul_l {i j : Int} (h : -1000000000 < i ∧ i < 1000000000) : semBin .Mult (.int i) (.int j) = some (false, .int (i * j)) := mul_int (.inl (by omega))
theorem mul_r {i j : Int} (h : -1000000000 < j ∧ j < 1000000000) : semBin .Mult (.int i) (.int j) = some (false, .int (i * j)) := mul_int (.inr (by omega))
theorem rg1_le (n : Int) (h : 0 ≤ n) (h2 : n ≤ 1000000000) : rg1 (.int n) = .ok (false, rngD 0 n.toNat) := rg1_int n (by omega)
@[simp] theorem lit_dash : (PyData.str (Str.ofString "-") : D) = tx [45] := (rfl)
@[simp] theorem lit_0 : (PyData.str (Str.ofString "0") : D) = tx [48] := (rfl)
@[simp] theorem lit_1 : (PyData.str (Str.ofString "1") : D) = tx [49] := (rfl)
@[simp] theorem lit_e : (PyData.str (Str.ofString "") : D) = tx [] := (rfl)
@[simp] theorem lit_01 : (PyData.str (Str.ofString "01") : D) = tx [48, 49] := (rfl)
@[simp] theorem lit_10 : (PyData.str (Str.ofString "10") : D) = tx [49, 48] := (rfl)
@[simp] theorem lit_01d : (PyData.str (Str.ofString "01-") : D) = tx [48, 49, 45] := (rfl)
@[simp] theorem int_0 : s_int [tx [48]] = some (false, .int 0) := (rfl)
@[simp] theorem int_1 : s_int [tx [49]] = some (false, .int 1) := (rfl)
/-- a sign of rows; of letters -/
def Sg (c : Nat) : Prop := c = 48 ∨ c = 49 ∨ c = 45
def Bt (c : Nat) : Prop := c = 48 ∨ c = 49
theorem Bt.sg {c : Nat} (h : Bt c) : Sg c := h.elim .inl fun h => .inr (.inl h)
def Row (w : Nat) (l : Tx) : Prop := l.length = w ∧ ∀ c ∈ l, Sg c
def Ltr (w : Nat) (l : Tx) : Prop := l.length = w ∧ ∀ c ∈ l, Bt c
theorem Ltr.row {w : Nat} {l : Tx} (h : Ltr w l) : Row w l := ⟨h.1, fun c hc => (h.2 c hc).sg⟩
theorem ix_01 (i : Int) (h0 : 0 ≤ i) (h1 : i < 2) : ∃ c, Bt c ∧ semIx (tx [48, 49]) (.int i) = some (tx [c]) := by
  obtain ⟨n, rfl⟩ := Int.eq_ofNat_of_zero_le h0
  have : n = 0 ∨ n = 1 := by omega
  rcases this with rfl | rfl
  · exact ⟨48, .inl rfl, ix_tx (sz _ (by decide)) rfl⟩
  · exact ⟨49, .inr rfl, ix_tx (sz _ (by decide)) rfl⟩
theorem rngD_at {a : Int} {n i : Nat} {d : D} (h : (rngD a n)[i]? = some d) : i < n ∧ d = .int (a + (i : Int)) := by
  unfold rngD at h
  rw [List.getElem?_map] at h
  by_cases hi : i < n
  · rw [List.getElem?_range hi] at h
    cases h
    exact ⟨hi, rfl⟩
  · rw [List.getElem?_eq_none (by simpa using hi)] at h
    cases h
theorem map_at {α : Type} {f : α → D} {l : List α} {i : Nat} {d : D} (h : (l.map f)[i]? = some d) : ∃ hi : i < l.length, d = f l[i] := by
  rw [List.getElem?_map] at h
  by_cases hi : i < l.length
  · rw [List.getElem?_eq_getElem hi] at h
    cases h
    exact ⟨hi, rfl⟩
  · rw [List.getElem?_eq_none (by omega)] at h
    cases h
namespace M
/-! ### the laws' own helpers -/
def cell : MF := ⟨2, (.cons (.ife (.cmp .Lt (.v 1) (.bi "len" (.cons (.v 0) .nil))) (.cons (.ret (.ix (.v 0) (.v 1))) .nil) .nil) (.cons (.ret (.ki 0)) .nil))⟩
def cellI (ns : List Int) (k : Int) : Int := ns.getD k.toNat 0
theorem cell_ok {Γ : FT} {n : Nat} {X : Str → Prop} {K : Rv → Prop} (ns : List Int) (k : Int) (h : 0 ≤ k) (q : K (.fr false (.int (cellI ns k)))) : RS X (runF Γ n cell [.list (ns.map .int), .int k]) K := by
  refine rs_run ?_
  obtain ⟨k, rfl⟩ := Int.eq_ofNat_of_zero_le h
  simp [cell, startE]
  unfold cellI at q
  constructor
  · intro hk
    rw [ix_list (d := .int ns[k]) (by simp [hk])]
    simpa [hk] using q
  · intro hk
    simpa [hk] using q
theorem cell_eq {Γ : FT} {n : Nat} (ns : List Int) (k : Int) (h : 0 ≤ k) : runF Γ n cell [.list (ns.map .int), .int k] = .ok (.fr false (.int (cellI ns k))) := by
  obtain ⟨a, e, rfl⟩ := rs_eq (cell_ok (Γ := Γ) (n := n) (K := fun v => v = .fr false (.int (cellI ns k))) ns k h rfl)
  exact e
def stream : MF := ⟨5, (.cons (.set 2 (.lst .nil) true) (.cons (.set 3 (.bin .Add (.bin .Mod (.v 0) (.ki 2147483647)) (.ki 1)) false) (.cons (.for_ (.n 4) (.r1 (.v 1)) (.cons (.set 3 (.bin .Mod (.bin .Add (.bin .Add (.bin .Mult (.v 3) (.ki 48271)) (.bin .Mult (.bin .Mult (.ki 7) (.v 4)) (.v 4))) (.ki 3)) (.ki 2147483647)) false) (.cons (.app 2 (.bin .FloorDiv (.v 3) (.ki 16))) .nil))) (.cons (.reto 2) .nil))))⟩
theorem stream_ok {Γ : FT} {n : Nat} {X : Str → Prop} {K : Rv → Prop} (c m : Int) (h0 : 0 ≤ m) (h1 : m ≤ 1000) (q : ∀ l : List Int, l.length = m.toNat → (∀ x ∈ l, 0 ≤ x) → K (.ow false (.list (l.map .int)))) : RS X (runF Γ n stream [.int c, .int m]) K := by
  refine rs_run ?_
  simp [stream, startE, mod_int, rg1_le m h0 (by omega)]
  obtain ⟨I, hI⟩ : ∃ I : Nat → List Sl → Prop, ∀ i e, I i e = ∃ (s : Sl) (l : List Int) (x : Int) (L : D), e = [.fr false (.int c), .fr false (.int m), .ow false L, .fr false (.int x), s] ∧ L = .list (l.map .int) ∧ l.length = i ∧ (∀ y ∈ l, 0 ≤ y) ∧ 0 ≤ x := ⟨_, fun _ _ => rfl⟩
  refine fs_for I ?_ (fun i d e hd h => ?_) (fun e h => ?_)
  · rw [hI]
    exact ⟨_, [], _, _, rfl, rfl, rfl, by simp, by omega⟩
  · rw [hI] at h
    obtain ⟨s, l, x, L, rfl, rfl, hl, hp, hx⟩ := h
    obtain ⟨hi, rfl⟩ := rngD_at hd
    have b2 : (-1000000000 < (i : Int) ∧ (i : Int) < 1000000000) := by omega
    simp [mul_r (i := x) (j := 48271) (by decide), mul_l (i := 7) (j := (i : Int)) (by decide), mul_r (i := 7 * (i : Int)) (j := (i : Int)) b2, mod_int, div_int]
    refine ⟨slt (by omega), ?_⟩
    rw [hI]
    refine ⟨_, l ++ [_], _, _, rfl, by simp; rfl, by simp [hl], ?_, by omega⟩
    intro y hy
    rcases List.mem_append.mp hy with hy | hy
    · exact hp y hy
    · rw [List.mem_singleton.mp hy]
      omega
  · rw [hI] at h
    obtain ⟨s, l, x, L, rfl, rfl, hl, hp, hx⟩ := h
    simp
    exact q l (by simpa [rngD] using hl) hp
theorem stream_okN {Γ : FT} {n : Nat} {X : Str → Prop} {K : Rv → Prop} (c : Int) (m : Nat) (h1 : m ≤ 1000) (q : ∀ l : List Int, l.length = m → (∀ x ∈ l, 0 ≤ x) → K (.ow false (.list (l.map .int)))) : RS X (runF Γ n stream [.int c, .int (m : Int)]) K := by
  have k0 : (0 : Int) ≤ (m : Int) := by omega
  have k1 : (m : Int) ≤ 1000 := by omega
  have k2 : (m : Int).toNat = m := Int.toNat_natCast m
  generalize (m : Int) = z at *
  exact stream_ok c z k0 k1 fun l hl hp => q l (hl.trans k2) hp
/-- x is y -/
def truth : MF := ⟨2, (.cons (.ret (.bop true (.cons (.isi (.v 0) "bool") (.cons (.cmp .Eq (.v 0) (.v 1)) .nil)))) .nil)⟩
theorem truth_ok {Γ : FT} {n : Nat} {X : Str → Prop} {K : Rv → Prop} (a b : Bool) (q : K (.fr false (.bool (decide (a = b))))) : RS X (runF Γ n truth [.bool a, .bool b]) K := by
  refine rs_run ?_
  simp [truth, startE]
  exact q
def row : MF := ⟨5, (.cons (.set 3 (.lst .nil) true) (.cons (.for_ (.n 4) (.e (.call "_law_stream" (.cons (.v 0) (.cons (.v 1) .nil)))) (.cons (.ife (.cmp .Gt (.bin .Mod (.v 4) (.v 2)) (.ki 0)) (.cons (.app 3 (.ks "-")) .nil) (.cons (.app 3 (.ix (.ks "01") (.bin .Mod (.bin .FloorDiv (.v 4) (.ki 64)) (.ki 2)))) .nil)) .nil)) (.frz 3 (.cons (.ret (.mt (.ks "") "join" (.cons (.v 3) .nil))) .nil))))⟩
def StreamAt (Γ : FT) : Prop := ∃ Γ' n, Γ "_law_stream" = some (2, fun ds => runF Γ' n stream ds)
theorem sing_flat (l : Tx) : (l.map fun c => [c]).flatten = l := by
  induction l with
  | nil => rfl
  | cons c l ih => rw [List.map_cons, List.flatten_cons, ih]; rfl
theorem sing_len (l : Tx) : ((l.map fun c => [c]).map List.length).sum = l.length := by
  induction l with
  | nil => rfl
  | cons c l ih =>
    rw [List.map_cons, List.map_cons, List.sum_cons, ih, List.length_cons]
    show 1 + l.length = l.length + 1
    omega
theorem mem_app {P : Nat → Prop} {l : Tx} {y : Nat} (h : ∀ x ∈ l, P x) (hy : P y) : ∀ x ∈ l ++ [y], P x := fun x hx => by
  rcases List.mem_append.mp hx with hx | hx
  · exact h x hx
  · rw [List.mem_singleton.mp hx]; exact hy
theorem join_sg {l : Tx} (h : l.length ≤ 16777216) : semMt (tx []) "join" [.list (l.map fun c => tx [c])] = some (false, tx l) := by
  have := join_tx (ts := l.map fun c => [c]) (by rw [sing_len]; exact sz _ h)
  rw [sing_flat, List.map_map] at this
  exact this
theorem row_ok {Γ : FT} {n : Nat} {X : Str → Prop} {K : Rv → Prop} (hs : StreamAt Γ) (c w z : Int) (h0 : 0 ≤ w) (h1 : w ≤ 1000) (hz : 0 < z) (q : ∀ r : Tx, Row w.toNat r → K (.fr false (tx r))) : RS X (runF Γ n row [.int c, .int w, .int z]) K := by
  obtain ⟨Γ', n', e⟩ := hs
  refine rs_run ?_
  simp [row, startE, e_call e]
  refine stream_ok c w h0 h1 fun l hl hp => ?_
  simp
  obtain ⟨I, hI⟩ : ∃ I : Nat → List Sl → Prop, ∀ i e, I i e = ∃ (s : Sl) (r : Tx) (L : D), e = [.fr false (.int c), .fr false (.int w), .fr false (.int z), .ow false L, s] ∧ L = .list (r.map fun c => tx [c]) ∧ r.length = i ∧ ∀ y ∈ r, Sg y := ⟨_, fun _ _ => rfl⟩
  refine fs_for I ?_ (fun i d e hd h => ?_) (fun e h => ?_)
  · rw [hI]
    exact ⟨_, [], _, rfl, rfl, rfl, by simp⟩
  · rw [hI] at h
    obtain ⟨s, r, L, rfl, rfl, hr, hc⟩ := h
    obtain ⟨hi, rfl⟩ := map_at hd
    have := hp l[i] (List.getElem_mem hi)
    obtain ⟨b, hb, eb⟩ := ix_01 (l[i] / 64 % 2) (by omega) (by omega)
    simp [mod_int hz, mod_int, div_int, eb]
    refine ⟨fun _ => ⟨slt (by omega), ?_⟩, fun _ => ⟨slt (by omega), ?_⟩⟩ <;> rw [hI]
    · exact ⟨_, r ++ [45], _, rfl, by simp, by simp [hr], mem_app hc (.inr (.inr rfl))⟩
    · exact ⟨_, r ++ [b], _, rfl, by simp, by simp [hr], mem_app hc hb.sg⟩
  · rw [hI] at h
    obtain ⟨s, r, L, rfl, rfl, hr, hc⟩ := h
    simp [join_sg (l := r) (by rw [hr]; simp; omega)]
    exact q r ⟨by rw [hr]; simp [hl], hc⟩
end M
end En
set_option Elab.async false
set_option linter.all false
set_option maxRecDepth 100000
set_option maxHeartbeats 4000000
namespace En
open PySem PySem.Spec PyProof.Rows L2

/-! ### equal lists of plain things -/
def Flat (d : D) : Prop := d.canLay0 = true ∧ d.depth = 0
theorem flat_int (i : Int) : Flat (.int i) := ⟨by simp [PyData.canLay0], by simp [PyData.depth]⟩
theorem flat_bool (i : Bool) : Flat (.bool i) := ⟨by simp [PyData.canLay0], by simp [PyData.depth]⟩
theorem flat_tx {l : Tx} (h : ∀ c ∈ l, c < 1114112) : Flat (tx l) := by
  refine ⟨?_, by simp [tx, PyData.depth]⟩
  unfold tx
  simp only [PyData.canLay0, PyData.strOk]
  simpa using h
theorem lay_all : ∀ {l : List D}, (∀ d ∈ l, Flat d) → PyData.canLayAll0 l = true ∧ PyData.depthAll l = 0
  | [], _ => ⟨by simp [PyData.canLayAll0], by simp [PyData.depthAll]⟩
  | d :: l, h => by
    have a := lay_all fun e he => h e (List.mem_cons_of_mem _ he)
    have b := h d List.mem_cons_self
    exact ⟨by simp [PyData.canLayAll0, a.1, b.1], by simp [PyData.depthAll, a.2, b.2]⟩
theorem shp_list {l : List D} (h : ∀ d ∈ l, Flat d) : shp (.list l) = true := by
  have := lay_all h
  simp [shp, SeqAt.shaped, PyData.canLay0, PyData.depth, this.1, this.2]
theorem eqv_all_nil (l : List D) : PyData.eqvAll l [] = decide (l = []) := by cases l <;> simp [PyData.eqvAll]
theorem eq_nil {l : List D} (h : ∀ d ∈ l, Flat d) : eqO (.list l) (.list []) = some (decide (l = [])) := by
  have e : (shp (.list l) && shp (.list [])) = true := by rw [shp_list h, shp_list (by simp)]; rfl
  show (if (shp (.list l) && shp (.list [])) = true then some (PyData.eqv (.list l) (.list [])) else none) = _
  rw [if_pos e]
  congr 1
  simp [PyData.eqv, eqv_all_nil]
/-! ### a letter in a row -/
def Hold (r l : Tx) : Prop := ∀ (i a b : Nat), r[i]? = some a → l[i]? = some b → a = 45 ∨ a = b
theorem hold_self (l : Tx) : Hold l l := fun i a b h1 h2 => .inr (by rw [h1] at h2; cases h2; rfl)
theorem hold_dash (n : Nat) (l : Tx) : Hold (List.replicate n 45) l := fun i a b h1 _ => .inl (List.eq_of_mem_replicate (List.mem_of_getElem? h1))
theorem zip_at {α β : Type} {f : α → β → D} {l : List α} {k : List β} {i : Nat} {d : D} (h : (List.zipWith f l k)[i]? = some d) : ∃ (hi : i < l.length) (hj : i < k.length), d = f l[i] k[i] := by
  rw [List.getElem?_zipWith] at h
  by_cases hi : i < l.length
  · by_cases hj : i < k.length
    · rw [List.getElem?_eq_getElem hi, List.getElem?_eq_getElem hj] at h
      cases h
      exact ⟨hi, hj, rfl⟩
    · rw [List.getElem?_eq_none (l := k) (by omega)] at h
      simp at h
  · rw [List.getElem?_eq_none (l := l) (by omega)] at h
    simp at h
@[simp] theorem zipR_tx (m m' : Bool) (a b : Tx) : zipR (.fr m (tx a)) (.fr m' (tx b)) = .ok (m || m', List.zipWith (fun d e => .tuple [d, e]) (a.map fun c => tx [c]) (b.map fun c => tx [c])) := zipR_ok (ds := a.map fun c => tx [c]) (es := b.map fun c => tx [c]) (by rfl) (by rfl) (items_tx a) (items_tx b)
@[simp] theorem zipR_txl (m m' : Bool) (a : Tx) (b : List D) : zipR (.fr m (tx a)) (.ow m' (.list b)) = .ok (m || m', List.zipWith (fun d e => .tuple [d, e]) (a.map fun c => tx [c]) b) := zipR_ok (ds := a.map fun c => tx [c]) (es := b) (by rfl) (by rfl) (items_tx a) (by rfl)
namespace M
def rowHolds : MF := ⟨4, (.cons (.for_ (.t [2, 3]) (.zip (.v 0) (.v 1)) (.cons (.ife (.bop true (.cons (.cmp .NotEq (.v 2) (.ks "-")) (.cons (.cmp .NotEq (.v 2) (.v 3)) .nil))) (.cons (.ret (.kb false)) .nil) .nil) .nil)) (.cons (.ret (.kb true)) .nil))⟩
theorem rowHolds_ok {Γ : FT} {n : Nat} {X : Str → Prop} {K : Rv → Prop} (r l : Tx) (q : ∀ b : Bool, (b = true ↔ Hold r l) → K (.fr false (.bool b))) : RS X (runF Γ n rowHolds [tx r, tx l]) K := by
  refine rs_run ?_
  simp [rowHolds, startE]
  obtain ⟨I, hI⟩ : ∃ I : Nat → List Sl → Prop, ∀ i e, I i e = ∃ (s s' : Sl), e = [.fr false (tx r), .fr false (tx l), s, s'] ∧ ∀ j, j < i → ∀ a b, r[j]? = some a → l[j]? = some b → a = 45 ∨ a = b := ⟨_, fun _ _ => rfl⟩
  refine fs_for I ?_ (fun i d e hd h => ?_) (fun e h => ?_)
  · rw [hI]
    exact ⟨_, _, rfl, fun j hj => absurd hj (Nat.not_lt_zero j)⟩
  · rw [hI] at h
    obtain ⟨s, s', rfl, h⟩ := h
    obtain ⟨hi, hj, rfl⟩ := zip_at hd
    have e1 := List.getElem?_eq_getElem hi
    have e2 := List.getElem?_eq_getElem hj
    generalize r[i] = a at *
    generalize l[i] = b at *
    have nx : (a = 45 ∨ a = b) → I (i + 1) [.fr false (tx r), .fr false (tx l), .fr false (tx [a]), .fr false (tx [b])] := fun hab => by
      rw [hI]
      refine ⟨_, _, rfl, fun j hj a' b' h1 h2 => ?_⟩
      by_cases hji : j < i
      · exact h j hji a' b' h1 h2
      · have : j = i := by omega
        subst this
        rw [e1] at h1; rw [e2] at h2
        cases h1; cases h2
        exact hab
    simp
    refine ⟨fun h1 h2 => q false ⟨fun z => (nomatch z), fun z => ?_⟩, fun h => nx (by by_cases h1 : a = 45 <;> simp_all)⟩
    rcases z i a b e1 e2 with z | z
    · exact absurd z h1
    · exact absurd z h2
  · rw [hI] at h
    obtain ⟨s, s', rfl, h⟩ := h
    try simp
    refine q true ⟨fun _ i a b h1 h2 => h i ?_ a b h1 h2, fun _ => rfl⟩
    have := (List.getElem?_eq_some_iff.mp h1).1
    have := (List.getElem?_eq_some_iff.mp h2).1
    rw [List.length_zipWith]
    omega
def filled : MF := ⟨5, (.cons (.set 2 (.lst .nil) true) (.cons (.for_ (.t [3, 4]) (.zip (.v 0) (.call "_law_stream" (.cons (.v 1) (.cons (.bi "len" (.cons (.v 0) .nil)) .nil)))) (.cons (.ife (.cmp .Eq (.v 3) (.ks "-")) (.cons (.set 3 (.ix (.ks "01") (.bin .Mod (.bin .FloorDiv (.v 4) (.ki 4)) (.ki 2))) false) .nil) .nil) (.cons (.app 2 (.v 3)) .nil))) (.frz 2 (.cons (.ret (.mt (.ks "") "join" (.cons (.v 2) .nil))) .nil))))⟩
theorem filled_ok {Γ : FT} {n : Nat} {X : Str → Prop} {K : Rv → Prop} (hs : StreamAt Γ) {w : Nat} (r : Tx) (c : Int) (hr : Row w r) (hw : w ≤ 1000) (q : ∀ l : Tx, Ltr w l → K (.fr false (tx l))) : RS X (runF Γ n filled [tx r, .int c]) K := by
  obtain ⟨Γ', n', e⟩ := hs
  have hrl := hr.1
  refine rs_run ?_
  have hd : r.length ≤ sizeLine := sz _ (by omega)
  simp -implicitDefEqProofs [filled, startE, e_call e, len_tx hd]
  rw [hrl]
  refine stream_okN c w hw fun l hl hp => ?_
  simp
  obtain ⟨I, hI⟩ : ∃ I : Nat → List Sl → Prop, ∀ i e, I i e = ∃ (s s' : Sl) (k : Tx) (L : D), e = [.fr false (tx r), .fr false (.int c), .ow false L, s, s'] ∧ L = .list (k.map fun c => tx [c]) ∧ k.length = i ∧ ∀ y ∈ k, Bt y := ⟨_, fun _ _ => rfl⟩
  refine fs_for I ?_ (fun i d e hd h => ?_) (fun e h => ?_)
  · rw [hI]
    exact ⟨_, _, [], _, rfl, rfl, rfl, by simp⟩
  · rw [hI] at h
    obtain ⟨s, s', k, L, rfl, rfl, hk, hc⟩ := h
    obtain ⟨hi, hj, rfl⟩ := zip_at hd
    have hs := hr.2 r[i] (List.getElem_mem hi)
    have := hp l[i] (List.getElem_mem hj)
    obtain ⟨b, hb, eb⟩ := ix_01 (l[i] / 4 % 2) (by omega) (by omega)
    simp [mod_int, div_int, eb]
    refine ⟨fun _ => ⟨slt (by omega), ?_⟩, fun h => ⟨slt (by omega), ?_⟩⟩ <;> rw [hI]
    · exact ⟨_, _, k ++ [b], _, rfl, by simp, by simp [hk], mem_app hc hb⟩
    · refine ⟨_, _, k ++ [r[i]], _, rfl, by simp, by simp [hk], mem_app hc ?_⟩
      rcases hs with h1 | h1 | h1
      · exact .inl h1
      · exact .inr h1
      · exact absurd h1 h
  · rw [hI] at h
    obtain ⟨s, s', k, L, rfl, rfl, hk, hc⟩ := h
    have hk2 : k.length = w := by
      rw [hk, List.length_zipWith, hl]
      simp [hrl]
    simp [join_sg (l := k) (by omega)]
    exact q k ⟨hk2, hc⟩
def turnedAt : MF := ⟨2, (.cons (.ret (.bin .Add (.bin .Add (.sl (.v 0) .no (.so (.v 1))) (.ix (.ks "10") (.bi "int" (.cons (.ix (.v 0) (.v 1)) .nil)))) (.sl (.v 0) (.so (.bin .Add (.v 1) (.ki 1))) .no))) .nil)⟩
theorem turnedAt_ok {Γ : FT} {n : Nat} {X : Str → Prop} {K : Rv → Prop} {w : Nat} (l : Tx) (p : Int) (hl : Ltr w l) (hw : w ≤ 1000) (h0 : 0 ≤ p) (h1 : p < w) (q : ∀ l : Tx, Ltr w l → K (.fr false (tx l))) : RS X (runF Γ n turnedAt [tx l, .int p]) K := by
  obtain ⟨k, rfl⟩ := Int.eq_ofNat_of_zero_le h0
  have hll := hl.1
  have hk : k < l.length := by omega
  have hb := hl.2 l[k] (List.getElem_mem hk)
  have hd : l.length ≤ sizeLine := sz _ (by omega)
  have fin : ∀ c, Bt c → Ltr w (l.take k ++ [c] ++ l.drop (k + 1)) := fun c hc => by
    refine ⟨by simp; omega, fun y hy => ?_⟩
    rcases List.mem_append.mp hy with hy | hy
    · rcases List.mem_append.mp hy with hy | hy
      · exact hl.2 y (List.mem_of_mem_take hy)
      · rw [List.mem_singleton.mp hy]; exact hc
    · exact hl.2 y (List.mem_of_mem_drop hy)
  have s1 : ∀ c : Nat, semBin .Add (tx (l.take k)) (tx [c]) = some (false, tx (l.take k ++ [c])) := fun c => add_tx (sz _ (by simp; omega))
  have s2 : ∀ c : Nat, semBin .Add (tx (l.take k ++ [c])) (tx (l.drop (k + 1))) = some (false, tx (l.take k ++ [c] ++ l.drop (k + 1))) := fun c => add_tx (sz _ (by simp; omega))
  have c2 : cutL l (some ((k : Int) + 1)) none = l.drop (k + 1) := cut_from (k := k + 1)
  have i0 : semIx (tx [49, 48]) (.int 0) = some (tx [49]) := ix_tx (i := 0) (sz _ (by decide)) rfl
  have i1 : semIx (tx [49, 48]) (.int 1) = some (tx [48]) := ix_tx (i := 1) (sz _ (by decide)) rfl
  refine rs_run ?_
  simp only [turnedAt, startE]
  rcases hb with h | h
  · simp [sl_tx hd, ix_tx hd (List.getElem?_eq_getElem hk), h, i0, cut_to, c2, s1]
    rw [s2]
    simpa using q _ (fin 49 (.inr rfl))
  · simp [sl_tx hd, ix_tx hd (List.getElem?_eq_getElem hk), h, i1, cut_to, c2, s1]
    rw [s2]
    simpa using q _ (fin 48 (.inl rfl))
def holdsDue : MF := ⟨3, (.cons (.ret (.cmp .Eq (.lc (.n 2) (.r1 (.bi "len" (.cons (.v 0) .nil))) (.so (.bop true (.cons (.cmp .NotEq (.ix (.v 0) (.v 2)) (.ks "-")) (.cons (.cmp .NotEq (.ix (.v 0) (.v 2)) (.ix (.v 1) (.v 2))) .nil)))) (.v 2)) (.lst .nil))) .nil)⟩
theorem holdsDue_ok {Γ : FT} {n : Nat} {X : Str → Prop} {K : Rv → Prop} {w : Nat} (r l : Tx) (hr : r.length = w) (hl : l.length = w) (hw : w ≤ 1000) (q : ∀ b : Bool, (b = true ↔ Hold r l) → K (.fr false (.bool b))) : RS X (runF Γ n holdsDue [tx r, tx l]) K := by
  have hd : r.length ≤ sizeLine := sz _ (by omega)
  have hd2 : l.length ≤ sizeLine := sz _ (by omega)
  refine rs_run ?_
  simp only [holdsDue, startE]
  simp [len_tx hd]
  rw [rg1_le _ (by omega) (by omega)]
  simp
  refine rs_lc (fun i m L => m = false ∧ ∃ ks : List Int, L = ks.map .int ∧ (ks = [] ↔ ∀ j, j < i → ∀ a b : Nat, r[j]? = some a → l[j]? = some b → a = 45 ∨ a = b)) ⟨rfl, [], rfl, by simp⟩ (fun i d m L hd' h => ?_) (fun m L h => ?_)
  · obtain ⟨rfl, ks, rfl, hk⟩ := h
    obtain ⟨hi, rfl⟩ := rngD_at hd'
    have e1 := List.getElem?_eq_getElem (l := r) (i := i) (by omega)
    have e2 := List.getElem?_eq_getElem (l := l) (i := i) (by omega)
    have stp : (r[i] = 45 ∨ r[i] = l[i]) → ((∀ j, j < i → ∀ a b : Nat, r[j]? = some a → l[j]? = some b → a = 45 ∨ a = b) ↔ ∀ j, j < i + 1 → ∀ a b : Nat, r[j]? = some a → l[j]? = some b → a = 45 ∨ a = b) := fun hab => by
      refine ⟨fun h j hj a b h1 h2 => ?_, fun h j hj => h j (by omega)⟩
      by_cases hji : j < i
      · exact h j hji a b h1 h2
      · have : j = i := by omega
        subst this
        rw [e1] at h1; rw [e2] at h2
        cases h1; cases h2
        exact hab
    simp [lcT, ix_tx hd e1, ix_tx hd2 e2]
    split
    · rename_i hc
      simp
      refine ⟨ks ++ [(i : Int)], by simp, ?_⟩
      refine ⟨fun z => absurd z (by simp), fun z => ?_⟩
      rcases z i (by omega) _ _ e1 e2 with z | z
      · exact absurd z hc.1
      · exact absurd z hc.2
    · rename_i hc
      simp only [noErr_ok', rs_ok]
      exact ⟨ks, rfl, hk.trans (stp (by by_cases h1 : r[i] = 45 <;> simp_all))⟩
  · obtain ⟨rfl, ks, rfl, hk⟩ := h
    rw [eq_nil (l := ks.map .int) (fun d hd => by obtain ⟨i, _, rfl⟩ := List.mem_map.mp hd; exact flat_int i)]
    refine ⟨sz _ (by simp [rngD]; omega), ?_⟩
    simp
    refine q _ ?_
    rw [decide_eq_true_eq, hk]
    refine ⟨fun h i a b h1 h2 => h i ?_ a b h1 h2, fun h j _ => h j⟩
    have := (List.getElem?_eq_some_iff.mp h1).1
    simpa [rngD] using this
end M
end En
set_option Elab.async false
set_option linter.all false
set_option maxRecDepth 100000
set_option maxHeartbeats 4000000
namespace En
open PySem L2

/-! ### an over written on a row -/
def wr (r o : Tx) : Tx := List.zipWith (fun a b => if b = 45 then a else b) r o
theorem wr_len (r o : Tx) : (wr r o).length = min r.length o.length := List.length_zipWith
theorem wr_get {r o : Tx} {i : Nat} (h1 : i < r.length) (h2 : i < o.length) : (wr r o)[i]? = some (if o[i] = 45 then r[i] else o[i]) := by
  unfold wr
  rw [List.getElem?_zipWith, List.getElem?_eq_getElem h1, List.getElem?_eq_getElem h2]
theorem wr_row {w : Nat} {r o : Tx} (h1 : Row w r) (h2 : Row w o) : Row w (wr r o) := by
  refine ⟨by rw [wr_len, h1.1, h2.1, Nat.min_self], fun c hc => ?_⟩
  obtain ⟨i, hi, e⟩ := List.getElem_of_mem hc
  rw [wr_len] at hi
  have a1 : i < r.length := by omega
  have a2 : i < o.length := by omega
  have e2 : (wr r o)[i]? = some c := by rw [List.getElem?_eq_getElem (by rw [wr_len]; exact hi), e]
  rw [wr_get a1 a2] at e2
  cases e2
  split
  · exact h1.2 _ (List.getElem_mem a1)
  · exact h2.2 _ (List.getElem_mem a2)
theorem wr_dash (r : Tx) : wr r (List.replicate r.length 45) = r := by
  induction r with
  | nil => rfl
  | cons a r ih =>
    show (if (45 : Nat) = 45 then a else 45) :: wr r (List.replicate r.length 45) = _
    rw [ih, if_pos rfl]
theorem take_get {α : Type} {l : List α} {i : Nat} {a : α} (h : l[i]? = some a) : l.take (i + 1) = l.take i ++ [a] := by
  rw [List.take_add_one, h]
  rfl
theorem lit_01dd : (PyData.str (Str.ofString "01--") : D) = tx [48, 49, 45, 45] := rfl
theorem ix_01dd (i : Int) (h0 : 0 ≤ i) (h1 : i < 4) : ∃ c, Sg c ∧ semIx (tx [48, 49, 45, 45]) (.int i) = some (tx [c]) := by
  obtain ⟨n, rfl⟩ := Int.eq_ofNat_of_zero_le h0
  have : n = 0 ∨ n = 1 ∨ n = 2 ∨ n = 3 := by omega
  rcases this with rfl | rfl | rfl | rfl
  · exact ⟨48, .inl rfl, ix_tx (sz _ (by decide)) rfl⟩
  · exact ⟨49, .inr (.inl rfl), ix_tx (sz _ (by decide)) rfl⟩
  · exact ⟨45, .inr (.inr rfl), ix_tx (sz _ (by decide)) rfl⟩
  · exact ⟨45, .inr (.inr rfl), ix_tx (sz _ (by decide)) rfl⟩
namespace M
def near : MF := ⟨7, (.cons (.set 3 (.lst .nil) true) (.cons (.for_ (.t [4, 5]) (.zip (.v 0) (.call "_law_stream" (.cons (.v 1) (.cons (.bi "len" (.cons (.v 0) .nil)) .nil)))) (.cons (.set 6 (.v 4) false) (.cons (.ife (.bop true (.cons (.cmp .Eq (.bin .Mod (.v 2) (.ki 4)) (.ki 1)) (.cons (.cmp .Eq (.bin .Mod (.v 5) (.ki 3)) (.ki 0)) .nil))) (.cons (.set 6 (.ks "-") false) .nil) .nil) (.cons (.ife (.bop true (.cons (.cmp .Eq (.bin .Mod (.v 2) (.ki 4)) (.ki 2)) (.cons (.cmp .Eq (.bin .Mod (.v 5) (.ki 3)) (.ki 0)) (.cons (.cmp .Eq (.v 4) (.ks "-")) .nil)))) (.cons (.set 6 (.ix (.ks "01") (.bin .Mod (.bin .FloorDiv (.v 5) (.ki 4)) (.ki 2))) false) .nil) .nil) (.cons (.ife (.bop true (.cons (.cmp .Eq (.bin .Mod (.v 2) (.ki 4)) (.ki 3)) (.cons (.cmp .Eq (.bin .Mod (.v 5) (.ki 5)) (.ki 0)) .nil))) (.cons (.set 6 (.ix (.ks "01--") (.bin .Mod (.bin .FloorDiv (.v 5) (.ki 8)) (.ki 4))) false) .nil) .nil) (.cons (.app 3 (.v 6)) .nil)))))) (.frz 3 (.cons (.ret (.mt (.ks "") "join" (.cons (.v 3) .nil))) .nil))))⟩
theorem near_ok {Γ : FT} {n : Nat} {X : Str → Prop} {K : Rv → Prop} (hs : StreamAt Γ) {w : Nat} (r : Tx) (c z : Int) (hr : Row w r) (hw : w ≤ 1000) (q : ∀ l : Tx, Row w l → K (.fr false (tx l))) : RS X (runF Γ n near [tx r, .int c, .int z]) K := by
  obtain ⟨Γ', n', e⟩ := hs
  have hrl := hr.1
  have hd : r.length ≤ sizeLine := sz _ (by omega)
  refine rs_run ?_
  simp [near, startE, e_call e, len_tx hd]
  refine stream_okN c r.length (by omega) fun l hl hp => ?_
  simp
  obtain ⟨I, hI⟩ : ∃ I : Nat → List Sl → Prop, ∀ i e, I i e = ∃ (s s' s'' : Sl) (k : Tx) (L : D), e = [.fr false (tx r), .fr false (.int c), .fr false (.int z), .ow false L, s, s', s''] ∧ L = .list (k.map fun c => tx [c]) ∧ k.length = i ∧ ∀ y ∈ k, Sg y := ⟨_, fun _ _ => rfl⟩
  refine fs_for I ?_ (fun i d e hd h => ?_) (fun e h => ?_)
  · rw [hI]
    exact ⟨_, _, _, [], _, rfl, rfl, rfl, by simp⟩
  · rw [hI] at h
    obtain ⟨s, s', s'', k, L, rfl, rfl, hk, hc⟩ := h
    obtain ⟨hi, hj, rfl⟩ := zip_at hd
    have hs := hr.2 r[i] (List.getElem_mem hi)
    have := hp l[i] (List.getElem_mem hj)
    generalize r[i] = a at *
    generalize l[i] = x at *
    obtain ⟨b, hb, eb⟩ := ix_01 (x / 4 % 2) (by omega) (by omega)
    obtain ⟨b2, hb2, eb2⟩ := ix_01dd (x / 8 % 4) (by omega) (by omega)
    have nx : ∀ (y : Nat) (s : Sl), Sg y → I (i + 1) [.fr false (tx r), .fr false (.int c), .fr false (.int z), .ow false (.list ((k.map fun c => tx [c]) ++ [tx [y]])), .fr false (tx [a]), .fr false (.int x), s] := fun y s hy => by
      rw [hI]
      exact ⟨_, _, _, k ++ [y], _, rfl, by simp, by simp [hk], mem_app hc hy⟩
    have zz : k.length < sizeLine := slt (by omega)
    have n1 := fun s => nx a s hs
    have n2 := fun s => nx 45 s (.inr (.inr rfl))
    have n3 := fun s => nx b s hb.sg
    have n4 := fun s => nx b2 s hb2
    simp [En.mod_int, En.div_int, eb, eb2, lit_01dd, zz, n1, n2, n3, n4]
  · rw [hI] at h
    obtain ⟨s, s', s'', k, L, rfl, rfl, hk, hc⟩ := h
    have hk2 : k.length = w := by
      rw [hk, List.length_zipWith, hl]
      simp [hrl]
    simp [join_sg (l := k) (by omega)]
    exact q k ⟨hk2, hc⟩
def written : MF := ⟨5, (.cons (.set 2 (.lst .nil) true) (.cons (.for_ (.t [3, 4]) (.zip (.v 0) (.v 1)) (.cons (.ife (.cmp .Eq (.v 4) (.ks "-")) (.cons (.set 4 (.v 3) false) .nil) .nil) (.cons (.app 2 (.v 4)) .nil))) (.frz 2 (.cons (.ret (.mt (.ks "") "join" (.cons (.v 2) .nil))) .nil))))⟩
theorem written_ok {Γ : FT} {n : Nat} {X : Str → Prop} {K : Rv → Prop} (r o : Tx) (hw : r.length ≤ 1000) (q : K (.fr false (tx (wr r o)))) : RS X (runF Γ n written [tx r, tx o]) K := by
  refine rs_run ?_
  simp [written, startE]
  obtain ⟨I, hI⟩ : ∃ I : Nat → List Sl → Prop, ∀ i e, I i e = ∃ (s s' : Sl) (L : D), e = [.fr false (tx r), .fr false (tx o), .ow false L, s, s'] ∧ L = .list (((wr r o).take i).map fun c => tx [c]) := ⟨_, fun _ _ => rfl⟩
  refine fs_for I ?_ (fun i d e hd h => ?_) (fun e h => ?_)
  · rw [hI]
    exact ⟨_, _, _, rfl, rfl⟩
  · rw [hI] at h
    obtain ⟨s, s', L, rfl, rfl⟩ := h
    obtain ⟨hi, hj, rfl⟩ := zip_at hd
    have g := take_get (wr_get hi hj)
    have zz : ((wr r o).take i).length < sizeLine := slt (by rw [List.length_take]; omega)
    have nx : ∀ s s', I (i + 1) [.fr false (tx r), .fr false (tx o), .ow false (.list (((wr r o).map fun c => tx [c]).take i ++ [tx [if o[i] = 45 then r[i] else o[i]]])), s, s'] := fun s s' => by
      rw [hI]
      exact ⟨_, _, _, rfl, by rw [g, List.map_append, List.map_take]; rfl⟩
    generalize r[i] = a at *
    generalize o[i] = b at *
    simp at zz
    simp [zz]
    refine ⟨fun h => ?_, fun h => ?_⟩
    · have := nx (.fr false (tx [a])) (.fr false (tx [a]))
      rw [if_pos h] at this
      exact this
    · have := nx (.fr false (tx [a])) (.fr false (tx [b]))
      rw [if_neg h] at this
      exact this
  · rw [hI] at h
    obtain ⟨s, s', L, rfl, rfl⟩ := h
    have e : (wr r o).take (List.zipWith (fun a b => PyData.tuple [tx [a], tx [b]]) r o).length = wr r o := List.take_of_length_le (by rw [wr_len, List.length_zipWith]; exact Nat.le_refl _)
    rw [e]
    simp [join_sg (l := wr r o) (by rw [wr_len]; omega)]
    exact q
def writtenDue : MF := ⟨4, (.cons (.set 2 (.ks "") false) (.cons (.for_ (.n 3) (.r1 (.bi "len" (.cons (.v 0) .nil))) (.cons (.ife (.cmp .Eq (.ix (.v 1) (.v 3)) (.ks "-")) (.cons (.set 2 (.bin .Add (.v 2) (.ix (.v 0) (.v 3))) false) .nil) (.cons (.set 2 (.bin .Add (.v 2) (.ix (.v 1) (.v 3))) false) .nil)) .nil)) (.cons (.ret (.v 2)) .nil)))⟩
theorem writtenDue_ok {Γ : FT} {n : Nat} {X : Str → Prop} {K : Rv → Prop} (r o : Tx) (hw : r.length ≤ 1000) (ho : o.length = r.length) (q : K (.fr false (tx (wr r o)))) : RS X (runF Γ n writtenDue [tx r, tx o]) K := by
  have hd : r.length ≤ sizeLine := sz _ (by omega)
  have hd2 : o.length ≤ sizeLine := sz _ (by omega)
  refine rs_run ?_
  simp [writtenDue, startE, len_tx hd]
  rw [rg1_le _ (by omega) (by omega)]
  simp
  obtain ⟨I, hI⟩ : ∃ I : Nat → List Sl → Prop, ∀ i e, I i e = ∃ (s : Sl), e = [.fr false (tx r), .fr false (tx o), .fr false (tx ((wr r o).take i)), s] := ⟨_, fun _ _ => rfl⟩
  refine fs_for I ?_ (fun i d e hd' h => ?_) (fun e h => ?_)
  · rw [hI]
    exact ⟨_, rfl⟩
  · rw [hI] at h
    obtain ⟨s, rfl⟩ := h
    obtain ⟨hi, rfl⟩ := rngD_at hd'
    have a1 : i < r.length := by simpa using hi
    have a2 : i < o.length := by omega
    have g := take_get (wr_get a1 a2)
    have e1 := ix_tx hd (List.getElem?_eq_getElem a1)
    have e2 := ix_tx hd2 (List.getElem?_eq_getElem a2)
    have ad : ∀ c : Nat, semBin .Add (tx ((wr r o).take i)) (tx [c]) = some (false, tx ((wr r o).take i ++ [c])) := fun c => add_tx (sz _ (by rw [List.length_take]; simp; omega))
    simp [e1, e2, ad]
    refine ⟨fun h => ?_, fun h => ?_⟩ <;> rw [hI]
    · rw [if_pos h] at g
      exact ⟨_, by rw [g]⟩
    · rw [if_neg h] at g
      exact ⟨_, by rw [g]⟩
  · rw [hI] at h
    obtain ⟨s, rfl⟩ := h
    have e : (wr r o).take (rngD 0 r.length).length = wr r o := List.take_of_length_le (by rw [wr_len]; simp [rngD]; omega)
    rw [e]
    simp
    exact q
end M
end En
set_option Elab.async false
set_option linter.all false
set_option maxRecDepth 100000
set_option maxHeartbeats 4000000
namespace En
open PySem L2

/-! ### rows that meet -/
def Cl (a b : Tx) : Prop := ∃ i x y : Nat, a[i]? = some x ∧ b[i]? = some y ∧ x ≠ 45 ∧ y ≠ 45 ∧ x ≠ y
def mt (a b : Tx) : Tx := List.zipWith (fun x y => if x = 45 then y else x) a b
theorem mt_len (r o : Tx) : (mt r o).length = min r.length o.length := List.length_zipWith
theorem mt_get {r o : Tx} {i : Nat} (h1 : i < r.length) (h2 : i < o.length) : (mt r o)[i]? = some (if r[i] = 45 then o[i] else r[i]) := by
  unfold mt
  rw [List.getElem?_zipWith, List.getElem?_eq_getElem h1, List.getElem?_eq_getElem h2]
def NoCl (i : Nat) (a b : Tx) : Prop := ∀ j, j < i → ∀ x y : Nat, a[j]? = some x → b[j]? = some y → ¬ (x ≠ 45 ∧ y ≠ 45 ∧ x ≠ y)
theorem nocl_step {i : Nat} {a b : Tx} (h1 : i < a.length) (h2 : i < b.length) (h : NoCl i a b) (n : ¬ (a[i] ≠ 45 ∧ b[i] ≠ 45 ∧ a[i] ≠ b[i])) : NoCl (i + 1) a b := fun j hj x y e1 e2 => by
  by_cases hji : j < i
  · exact h j hji x y e1 e2
  · have : j = i := by omega
    subst this
    rw [List.getElem?_eq_getElem h1] at e1
    rw [List.getElem?_eq_getElem h2] at e2
    cases e1; cases e2
    exact n
theorem nocl_end {i : Nat} {a b : Tx} (hi : min a.length b.length ≤ i) (h : NoCl i a b) : ¬ Cl a b := fun ⟨j, x, y, e1, e2, n⟩ => by
  have := (List.getElem?_eq_some_iff.mp e1).1
  have := (List.getElem?_eq_some_iff.mp e2).1
  exact h j (by omega) x y e1 e2 n
theorem cl_of {i : Nat} {a b : Tx} (h1 : i < a.length) (h2 : i < b.length) (n : a[i] ≠ 45 ∧ b[i] ≠ 45 ∧ a[i] ≠ b[i]) : Cl a b := ⟨i, _, _, List.getElem?_eq_getElem h1, List.getElem?_eq_getElem h2, n⟩
namespace M
def fits : MF := ⟨4, (.cons (.for_ (.t [2, 3]) (.zip (.v 0) (.v 1)) (.cons (.ife (.bop true (.cons (.cmp .NotEq (.v 2) (.ks "-")) (.cons (.cmp .NotEq (.v 3) (.ks "-")) (.cons (.cmp .NotEq (.v 2) (.v 3)) .nil)))) (.cons (.ret (.kb false)) .nil) .nil) .nil)) (.cons (.ret (.kb true)) .nil))⟩
theorem fits_ok {Γ : FT} {n : Nat} {X : Str → Prop} {K : Rv → Prop} (a b : Tx) (q : ∀ t : Bool, (t = true ↔ ¬ Cl a b) → K (.fr false (.bool t))) : RS X (runF Γ n fits [tx a, tx b]) K := by
  refine rs_run ?_
  simp [fits, startE]
  obtain ⟨I, hI⟩ : ∃ I : Nat → List Sl → Prop, ∀ i e, I i e = ∃ (s s' : Sl), e = [.fr false (tx a), .fr false (tx b), s, s'] ∧ NoCl i a b := ⟨_, fun _ _ => rfl⟩
  refine fs_for I ?_ (fun i d e hd h => ?_) (fun e h => ?_)
  · rw [hI]
    exact ⟨_, _, rfl, fun j hj => absurd hj (Nat.not_lt_zero j)⟩
  · rw [hI] at h
    obtain ⟨s, s', rfl, h⟩ := h
    obtain ⟨hi, hj, rfl⟩ := zip_at hd
    have nx : ¬ (a[i] ≠ 45 ∧ b[i] ≠ 45 ∧ a[i] ≠ b[i]) → I (i + 1) [.fr false (tx a), .fr false (tx b), .fr false (tx [a[i]]), .fr false (tx [b[i]])] := fun hn => by
      rw [hI]
      exact ⟨_, _, rfl, nocl_step hi hj h hn⟩
    have cl := cl_of hi hj
    simp
    refine ⟨fun h1 h2 h3 => q false ⟨fun z => (nomatch z), fun z => absurd (cl ⟨h1, h2, h3⟩) z⟩, fun h => nx fun z => z.2.2 (h z.1 z.2.1)⟩
  · rw [hI] at h
    obtain ⟨s, s', rfl, h⟩ := h
    try simp
    exact q true ⟨fun _ => nocl_end (by rw [List.length_zipWith]; exact Nat.le_refl _) h, fun _ => rfl⟩
def meetR : MF := ⟨5, (.cons (.set 2 (.lst .nil) true) (.cons (.for_ (.t [3, 4]) (.zip (.v 0) (.v 1)) (.cons (.ife (.bop true (.cons (.cmp .NotEq (.v 3) (.ks "-")) (.cons (.cmp .NotEq (.v 4) (.ks "-")) (.cons (.cmp .NotEq (.v 3) (.v 4)) .nil)))) (.cons (.ret .kn) .nil) .nil) (.cons (.ife (.cmp .Eq (.v 3) (.ks "-")) (.cons (.set 3 (.v 4) false) .nil) .nil) (.cons (.app 2 (.v 3)) .nil)))) (.frz 2 (.cons (.ret (.mt (.ks "") "join" (.cons (.v 2) .nil))) .nil))))⟩
theorem meetR_ok {Γ : FT} {n : Nat} {X : Str → Prop} {K : Rv → Prop} (a b : Tx) (ha : a.length ≤ 1000) (q1 : Cl a b → K (.fr false .none)) (q2 : ¬ Cl a b → K (.fr false (tx (mt a b)))) : RS X (runF Γ n meetR [tx a, tx b]) K := by
  refine rs_run ?_
  simp [meetR, startE]
  obtain ⟨I, hI⟩ : ∃ I : Nat → List Sl → Prop, ∀ i e, I i e = ∃ (s s' : Sl) (L : D), e = [.fr false (tx a), .fr false (tx b), .ow false L, s, s'] ∧ L = .list (((mt a b).map fun c => tx [c]).take i) ∧ NoCl i a b := ⟨_, fun _ _ => rfl⟩
  refine fs_for I ?_ (fun i d e hd h => ?_) (fun e h => ?_)
  · rw [hI]
    exact ⟨_, _, _, rfl, rfl, fun j hj => absurd hj (Nat.not_lt_zero j)⟩
  · rw [hI] at h
    obtain ⟨s, s', L, rfl, rfl, h⟩ := h
    obtain ⟨hi, hj, rfl⟩ := zip_at hd
    have g := take_get (mt_get hi hj)
    have nx : ¬ (a[i] ≠ 45 ∧ b[i] ≠ 45 ∧ a[i] ≠ b[i]) → ∀ s s', I (i + 1) [.fr false (tx a), .fr false (tx b), .ow false (.list (((mt a b).map fun c => tx [c]).take i ++ [tx [if a[i] = 45 then b[i] else a[i]]])), s, s'] := fun hn s s' => by
      rw [hI]
      exact ⟨_, _, _, rfl, by rw [← List.map_take, ← List.map_take, g, List.map_append]; rfl, nocl_step hi hj h hn⟩
    have cl := cl_of hi hj
    have zz : min i (mt a b).length < sizeLine := slt (by omega)
    simp [zz]
    refine ⟨fun h1 h2 h3 => q1 (cl ⟨h1, h2, h3⟩), fun h => ⟨fun h4 => ?_, fun h4 => ?_⟩⟩
    · have := nx (fun z => z.2.2 (h z.1 z.2.1)) (.fr false (tx [b[i]])) (.fr false (tx [b[i]]))
      rw [if_pos h4] at this
      exact this
    · have := nx (fun z => z.2.2 (h z.1 z.2.1)) (.fr false (tx [a[i]])) (.fr false (tx [b[i]]))
      rw [if_neg h4] at this
      exact this
  · rw [hI] at h
    obtain ⟨s, s', L, rfl, rfl, h⟩ := h
    have e : ((mt a b).map fun c => tx [c]).take (List.zipWith (fun a b => PyData.tuple [tx [a], tx [b]]) a b).length = (mt a b).map fun c => tx [c] := List.take_of_length_le (by rw [List.length_map, mt_len, List.length_zipWith]; exact Nat.le_refl _)
    rw [e]
    simp [join_sg (l := mt a b) (by rw [mt_len]; omega)]
    exact q2 (nocl_end (by rw [List.length_zipWith]; exact Nat.le_refl _) h)
end M
end En
set_option Elab.async false
set_option linter.all false
set_option maxRecDepth 100000
set_option maxHeartbeats 4000000
namespace En
open PySem L2

theorem count_tx (l : Tx) (c : Nat) : semMt (tx l) "count" [tx [c]] = some (false, .int (l.count c)) := by
  have e0 : semMt (tx l) "count" [tx [c]] = m_count (tx l) [tx [c]] := by
    unfold semMt
    rw [if_neg (by decide), if_neg (by decide), if_pos rfl]
  rw [e0]
  show some (false, PyData.int (Txt.count ⟨l.toArray⟩ ⟨#[c]⟩)) = _
  rw [PyProof.Rows.count_cnt]
  congr 2
  clear e0
  show PyData.int (PyProof.Rows.cnt c l) = _
  congr 1
  induction l with
  | nil => rfl
  | cons n l ih =>
    rw [PyProof.Rows.cnt_cons, ih, List.count_cons]
    by_cases h : n = c <;> simp [h]
    omega
theorem in_sg {c : Nat} (h : Sg c) : inO (tx [c]) (.tuple [tx [48], tx [49], tx [45]]) = some true := by
  rcases h with rfl | rfl | rfl <;> simp [inO, tx, sc, PyData.eqv]
@[simp] theorem int_bool (b : Bool) : s_int [.bool b] = some (false, .int (if b then 1 else 0)) := rfl
theorem pick_two {x y : D} (b : Bool) : semIx (.list [x, y]) (.int (if b then 1 else 0)) = some (if b then y else x) := by
  cases b
  · exact ix_list (i := 0) rfl
  · exact ix_list (i := 1) rfl
/-- how many letters lie in a row -/
def sizeI (r : Tx) : Int := 2 ^ (r.count 45)
namespace M
def size : MF := ⟨3, (.cons (.set 1 (.ki 1) false) (.cons (.for_ (.n 2) (.r1 (.mt (.v 0) "count" (.cons (.ks "-") .nil))) (.cons (.set 1 (.bin .Mult (.v 1) (.ki 2)) false) .nil)) (.cons (.ret (.v 1)) .nil)))⟩
theorem size_ok {Γ : FT} {n : Nat} {X : Str → Prop} {K : Rv → Prop} (r : Tx) (hr : r.length ≤ 1000) (q : K (.fr false (.int (sizeI r)))) : RS X (runF Γ n size [tx r]) K := by
  have hc : r.count 45 ≤ r.length := List.count_le_length
  refine rs_run ?_
  simp [size, startE, count_tx]
  rw [rg1_le _ (by omega) (by omega)]
  simp
  obtain ⟨I, hI⟩ : ∃ I : Nat → List Sl → Prop, ∀ i e, I i e = ∃ (s : Sl), e = [.fr false (tx r), .fr false (.int ((2 : Int) ^ i)), s] := ⟨_, fun _ _ => rfl⟩
  refine fs_for I ?_ (fun i d e hd' h => ?_) (fun e h => ?_)
  · rw [hI]
    exact ⟨_, rfl⟩
  · rw [hI] at h
    obtain ⟨s, rfl⟩ := h
    simp [mul_r (j := 2) (by omega)]
    rw [hI]
    exact ⟨_, by rw [Int.pow_succ]⟩
  · rw [hI] at h
    obtain ⟨s, rfl⟩ := h
    simp [rngD]
    exact q
def isRow : MF := ⟨3, (.cons (.ife (.bop false (.cons (.not_ (.isi (.v 0) "str")) (.cons (.cmp .NotEq (.bi "len" (.cons (.v 0) .nil)) (.v 1)) .nil))) (.cons (.ret (.kb false)) .nil) .nil) (.cons (.ret (.cmp .Eq (.lc (.n 2) (.e (.v 0)) (.so (.cmp .NotIn (.v 2) (.tup (.cons (.ks "0") (.cons (.ks "1") (.cons (.ks "-") .nil)))))) (.v 2)) (.lst .nil))) .nil))⟩
theorem isRow_ok {Γ : FT} {n : Nat} {X : Str → Prop} {K : Rv → Prop} {w : Nat} (r : Tx) (hr : Row w r) (hw : w ≤ 1000) (q : K (.fr false (.bool true))) : RS X (runF Γ n isRow [tx r, .int w]) K := by
  have hd : r.length ≤ sizeLine := sz _ (by have := hr.1; omega)
  refine rs_run ?_
  simp [isRow, startE, len_tx hd, hr.1]
  refine rs_lc (fun i m L => m = false ∧ L = []) ⟨rfl, rfl⟩ (fun i d m L hd' h => ?_) (fun m L h => ?_)
  · obtain ⟨rfl, rfl⟩ := h
    obtain ⟨hi, rfl⟩ := map_at hd'
    have := in_sg (hr.2 _ (List.getElem_mem hi))
    simp [lcT, this, sz 3 (by decide)]
  · obtain ⟨rfl, rfl⟩ := h
    rw [eq_nil (l := []) (by simp)]
    simp [hr.1]
    exact ⟨sz _ (by omega), q⟩
def inside : MF := ⟨3, (.cons (.ret (.cmp .Eq (.lc (.n 2) (.r1 (.bi "len" (.cons (.v 0) .nil))) (.so (.bop true (.cons (.cmp .NotEq (.ix (.v 1) (.v 2)) (.ks "-")) (.cons (.cmp .NotEq (.ix (.v 1) (.v 2)) (.ix (.v 0) (.v 2))) .nil)))) (.v 2)) (.lst .nil))) .nil)⟩
theorem inside_ok {Γ : FT} {n : Nat} {X : Str → Prop} {K : Rv → Prop} {w : Nat} (l r : Tx) (hr : r.length = w) (hl : l.length = w) (hw : w ≤ 1000) (h : Hold r l) (q : K (.fr false (.bool true))) : RS X (runF Γ n inside [tx l, tx r]) K := by
  have hd : r.length ≤ sizeLine := sz _ (by omega)
  have hd2 : l.length ≤ sizeLine := sz _ (by omega)
  refine rs_run ?_
  simp only [inside, startE]
  simp [len_tx hd2]
  rw [rg1_le _ (by omega) (by omega)]
  simp
  refine rs_lc (fun i m L => m = false ∧ L = []) ⟨rfl, rfl⟩ (fun i d m L hd' h' => ?_) (fun m L h' => ?_)
  · obtain ⟨rfl, rfl⟩ := h'
    obtain ⟨hi, rfl⟩ := rngD_at hd'
    have e1 := List.getElem?_eq_getElem (l := r) (i := i) (by omega)
    have e2 := List.getElem?_eq_getElem (l := l) (i := i) (by omega)
    have hh := h i _ _ e1 e2
    simp [lcT, ix_tx hd e1, ix_tx hd2 e2]
    rw [if_neg (by rcases hh with z | z <;> simp [z])]
    simp
  · obtain ⟨rfl, rfl⟩ := h'
    rw [eq_nil (l := []) (by simp)]
    refine ⟨sz _ (by simp [rngD]; omega), ?_⟩
    simp
    exact q
end M
end En
set_option Elab.async false
set_option linter.all false
set_option maxRecDepth 100000
set_option maxHeartbeats 4000000
namespace En
open PySem L2

theorem set_app {l : Tx} {i c : Nat} (h : i < l.length) : l.take i ++ [c] ++ l.drop (i + 1) = l.set i c := by
  rw [List.set_eq_take_append_cons_drop, if_pos h, List.append_assoc]
  rfl
theorem size_set {l : Tx} {i c : Nat} (h : l[i]? = some 45) (hc : c ≠ 45) : sizeI l = sizeI (l.set i c) + sizeI (l.set i c) := by
  obtain ⟨hi, e⟩ := List.getElem?_eq_some_iff.mp h
  have h1 : 0 < l.count 45 := List.count_pos_iff.mpr (by rw [← e]; exact List.getElem_mem hi)
  have h2 : (l.set i c).count 45 = l.count 45 - 1 := by
    rw [List.count_set hi, e]
    simp [hc]
  unfold sizeI
  rw [h2]
  obtain ⟨k, hk⟩ : ∃ k, l.count 45 = k + 1 := ⟨l.count 45 - 1, by omega⟩
  rw [hk, Nat.add_sub_cancel, Int.pow_succ]
  omega
theorem row_set {w : Nat} {l : Tx} {i c : Nat} (h : Row w l) (hc : Sg c) : Row w (l.set i c) := ⟨by rw [List.length_set]; exact h.1, fun x hx => by
  rcases List.mem_or_eq_of_mem_set hx with hx | hx
  · exact h.2 x hx
  · rw [hx]; exact hc⟩
/-- the place is told by one of both -/
def Told (a b : Tx) (i : Nat) : Prop := (∃ x : Nat, a[i]? = some x ∧ x ≠ 45) ∨ ∃ x : Nat, b[i]? = some x ∧ x ≠ 45
structure Less (w : Nat) (one other : Tx) (i : Nat) (rest : Tx) (fs : List Tx) : Prop where
  row : Row w rest
  hold : Hold one rest
  ge : ∀ j : Nat, i ≤ j → rest[j]? = one[j]?
  lt1 : ∀ j x : Nat, j < i → other[j]? = some x → x ≠ 45 → rest[j]? = some x
  lt2 : ∀ j : Nat, j < i → other[j]? = some 45 → rest[j]? = one[j]?
  sum : (fs.map sizeI).sum + sizeI rest = sizeI one
  mem : ∀ f ∈ fs, Row w f ∧ Hold one f ∧ Cl f other ∧ ∃ j x y : Nat, j < i ∧ f[j]? = some x ∧ rest[j]? = some y ∧ x ≠ 45 ∧ y ≠ 45 ∧ x ≠ y
  apart : fs.Pairwise fun a b => Cl b a
  cover : ∀ l, Ltr w l → Hold one l → (∃ f ∈ fs, Hold f l) ∨ Hold rest l
  tell : ∀ i x : Nat, rest[i]? = some x → x ≠ 45 → Told one other i
  tells : ∀ f ∈ fs, ∀ i x : Nat, f[i]? = some x → x ≠ 45 → Told one other i
theorem less_0 {w : Nat} {one other : Tx} (h : Row w one) : Less w one other 0 one [] :=
  ⟨h, hold_self _, fun _ _ => rfl, fun j _ hj => absurd hj (Nat.not_lt_zero j), fun j hj => absurd hj (Nat.not_lt_zero j), by simp, fun f hf => (nomatch hf), .nil, fun l _ h => .inr h, fun i x h1 h2 => .inl ⟨x, h1, h2⟩, fun f hf => (nomatch hf)⟩
theorem less_keep {w : Nat} {one other rest : Tx} {i s r : Nat} {fs : List Tx} (L : Less w one other i rest fs) (nc : ¬ Cl one other) (e1 : other[i]? = some s) (e2 : rest[i]? = some r) (h : ¬ (s ≠ 45 ∧ r = 45)) : Less w one other (i + 1) rest fs := by
  have e3 : one[i]? = some r := by rw [← L.ge i (Nat.le_refl _)]; exact e2
  refine ⟨L.row, L.hold, fun j hj => L.ge j (by omega), fun j x hj ex nx => ?_, fun j hj ex => ?_, L.sum, fun f hf => ?_, L.apart, L.cover, L.tell, L.tells⟩
  · by_cases hji : j < i
    · exact L.lt1 j x hji ex nx
    · have : j = i := by omega
      subst this
      rw [e1] at ex
      cases ex
      have hr : r ≠ 45 := fun z => h ⟨nx, z⟩
      by_cases hs : r = s
      · rw [e2, hs]
      · exact absurd ⟨j, r, s, e3, e1, hr, nx, hs⟩ nc
  · by_cases hji : j < i
    · exact L.lt2 j hji ex
    · exact L.ge j (by omega)
  · obtain ⟨a, b, c, j, x, y, hj, q⟩ := L.mem f hf
    exact ⟨a, b, c, j, x, y, by omega, q⟩
theorem hold_set {one rest : Tx} {i c : Nat} (h : Hold one rest) (e : one[i]? = some 45) : Hold one (rest.set i c) := fun j a b h1 h2 => by
  by_cases hj : i = j
  · subst hj
    rw [e] at h1
    cases h1
    exact .inl rfl
  · rw [List.getElem?_set_ne hj] at h2
    exact h j a b h1 h2
theorem less_split {w : Nat} {one other rest : Tx} {i s a : Nat} {fs : List Tx} (L : Less w one other i rest fs) (e1 : other[i]? = some s) (e2 : rest[i]? = some 45) (hs : Bt s) (ha : Bt a) (hsa : a ≠ s) : Less w one other (i + 1) (rest.set i s) (fs ++ [rest.set i a]) := by
  have e3 : one[i]? = some 45 := by rw [← L.ge i (Nat.le_refl _)]; exact e2
  have hi := (List.getElem?_eq_some_iff.mp e2).1
  have n1 : s ≠ 45 := by rcases hs with h | h <;> omega
  have n2 : a ≠ 45 := by rcases ha with h | h <;> omega
  have g1 : (rest.set i s)[i]? = some s := List.getElem?_set_self hi
  have g2 : (rest.set i a)[i]? = some a := List.getElem?_set_self hi
  refine ⟨row_set L.row hs.sg, hold_set L.hold e3, fun j hj => ?_, fun j x hj ex nx => ?_, fun j hj ex => ?_, ?_, fun f hf => ?_, ?_, fun l hl hh => ?_, fun j x h1 h2 => ?_, fun f hf j x h1 h2 => ?_⟩
  · rw [List.getElem?_set_ne (by omega)]
    exact L.ge j (by omega)
  · by_cases hji : j = i
    · subst hji
      rw [e1] at ex
      cases ex
      exact g1
    · rw [List.getElem?_set_ne (by omega)]
      exact L.lt1 j x (by omega) ex nx
  · by_cases hji : j = i
    · subst hji
      rw [e1] at ex
      cases ex
      exact absurd rfl n1
    · rw [List.getElem?_set_ne (by omega)]
      exact L.lt2 j (by omega) ex
  · rw [List.map_append, List.sum_append]
    have h1 := size_set e2 n1
    have h2 := size_set e2 n2
    have h3 := L.sum
    simp
    have : sizeI (rest.set i s) = sizeI (rest.set i a) := by omega
    omega
  · rcases List.mem_append.mp hf with hf | hf
    · obtain ⟨q1, q2, q3, j, x, y, hj, h1, h2, h3⟩ := L.mem f hf
      exact ⟨q1, q2, q3, j, x, y, by omega, h1, by rw [List.getElem?_set_ne (by omega)]; exact h2, h3⟩
    · rw [List.mem_singleton.mp hf]
      exact ⟨row_set L.row ha.sg, hold_set L.hold e3, ⟨i, a, s, g2, e1, n2, n1, hsa⟩, i, a, s, by omega, g2, g1, n2, n1, hsa⟩
  · refine List.pairwise_append.mpr ⟨L.apart, List.pairwise_singleton _ _, fun f hf b hb => ?_⟩
    rw [List.mem_singleton.mp hb]
    obtain ⟨q1, q2, q3, j, x, y, hj, h1, h2, n3, n4, n5⟩ := L.mem f hf
    exact ⟨j, y, x, by rw [List.getElem?_set_ne (by omega)]; exact h2, h1, n4, n3, fun z => n5 z.symm⟩
  · rcases L.cover l hl hh with ⟨f, hf, z⟩ | z
    · exact .inl ⟨f, List.mem_append_left _ hf, z⟩
    · have hil : i < l.length := by rw [hl.1, ← L.row.1]; exact hi
      have e4 := List.getElem?_eq_getElem hil
      have hb := hl.2 _ (List.getElem_mem hil)
      have put : ∀ c, l[i] = c → Hold (rest.set i c) l := fun c hc j u v h1 h2 => by
        by_cases hj : i = j
        · subst hj
          rw [List.getElem?_set_self hi] at h1
          rw [e4] at h2
          cases h1; cases h2
          exact .inr hc.symm
        · rw [List.getElem?_set_ne hj] at h1
          exact z j u v h1 h2
      by_cases hs' : l[i] = s
      · exact .inr (put s hs')
      · refine .inl ⟨_, List.mem_append_right _ (List.mem_singleton.mpr rfl), put a ?_⟩
        rcases hb with h | h <;> rcases hs with h' | h' <;> rcases ha with h'' | h'' <;> omega
  · by_cases hj : i = j
    · subst hj
      exact .inr ⟨s, e1, n1⟩
    · rw [List.getElem?_set_ne hj] at h1
      exact L.tell j x h1 h2
  · rcases List.mem_append.mp hf with hf | hf
    · exact L.tells f hf j x h1 h2
    · rw [List.mem_singleton.mp hf] at h1
      by_cases hj : i = j
      · subst hj
        exact .inr ⟨s, e1, n1⟩
      · rw [List.getElem?_set_ne hj] at h1
        exact L.tell j x h1 h2
theorem less_end {w : Nat} {one other rest : Tx} {fs : List Tx} (L : Less w one other w rest fs) (h1 : Row w one) (h2 : Row w other) : rest = mt one other := by
  apply List.ext_getElem?
  intro i
  by_cases hi : i < w
  · have a1 : i < one.length := by rw [h1.1]; exact hi
    have a2 : i < other.length := by rw [h2.1]; exact hi
    have a3 : i < rest.length := by rw [L.row.1]; exact hi
    rw [mt_get a1 a2]
    have e1 := List.getElem?_eq_getElem a1
    have e2 := List.getElem?_eq_getElem a2
    have e3 := List.getElem?_eq_getElem a3
    have hh := L.hold i _ _ e1 e3
    by_cases ho : other[i] = 45
    · rw [L.lt2 i hi (by rw [e2, ho]), e1]
      by_cases hz : one[i] = 45 <;> simp [hz, ho]
    · rw [L.lt1 i _ hi e2 ho]
      have e4 := L.lt1 i _ hi e2 ho
      rw [e3] at e4
      have e5 : rest[i] = other[i] := Option.some.inj e4
      rw [e5] at hh
      rcases hh with hh | hh
      · simp [hh]
      · by_cases hz : one[i] = 45
        · simp [hz]
        · simp [hz, hh]
  · rw [List.getElem?_eq_none (by rw [L.row.1]; omega), List.getElem?_eq_none (by rw [mt_len, h1.1, h2.1]; omega)]
@[simp] theorem is_nn : isO .none .none = some true := (rfl)
@[simp] theorem is_tn (l : Tx) : isO (tx l) .none = some false := (rfl)
@[simp] theorem is_ln (l : List D) : isO (.list l) .none = some false := (rfl)
theorem sp_to {l : Tx} {i : Nat} (h : l.length ≤ 1000) : semSl (tx l) none (some (i : Int)) = some (false, tx (l.take i)) := by rw [sl_tx (sz _ (by omega)), cut_to]
theorem sp_from {l : Tx} {i : Nat} (h : l.length ≤ 1000) : semSl (tx l) (some ((i : Int) + 1)) none = some (false, tx (l.drop (i + 1))) := by
  have := cut_from (l := l) (k := i + 1)
  rw [sl_tx (sz _ (by omega))]
  rw [show ((i : Int) + 1) = ((i + 1 : Nat) : Int) by omega, this]
theorem sp_a1 {l : Tx} {i c : Nat} (h : l.length ≤ 1000) : semBin .Add (tx (l.take i)) (tx [c]) = some (false, tx (l.take i ++ [c])) := add_tx (sz _ (by rw [List.length_take]; simp; omega))
theorem sp_a2 {l : Tx} {i c : Nat} (h : l.length ≤ 1000) (hi : i < l.length) : semBin .Add (tx (l.take i ++ [c])) (tx (l.drop (i + 1))) = some (false, tx (l.set i c)) := by
  rw [add_tx (sz _ (by rw [List.length_append, List.length_take, List.length_drop]; simp; omega)), set_app hi]
theorem enum_at {ds : List D} {k i : Nat} {d : D} (h : (enumD k ds)[i]? = some d) : ∃ d', ds[i]? = some d' ∧ d = .tuple [.int ((k + i : Nat) : Int), d'] := by
  rw [enumD_get] at h
  cases e : ds[i]? with
  | none => rw [e] at h; cases h
  | some d' => rw [e] at h; cases h; exact ⟨d', rfl, rfl⟩
theorem mt_hold {w : Nat} {a b l : Tx} (ha : Row w a) (hb : Row w b) (hc : ¬ Cl a b) (h : Hold (mt a b) l) : Hold b l := fun i x y e1 e2 => by
  have hi := (List.getElem?_eq_some_iff.mp e1).1
  rw [hb.1] at hi
  have a1 : i < a.length := by rw [ha.1]; exact hi
  have a2 : i < b.length := by rw [hb.1]; exact hi
  have g := mt_get a1 a2
  have e3 := List.getElem?_eq_getElem a2
  rw [e1] at e3
  cases e3
  by_cases hz : a[i] = 45
  · rw [if_pos hz] at g
    exact h i _ _ g e2
  · rw [if_neg hz] at g
    rcases h i _ _ g e2 with z | z
    · exact absurd z hz
    · by_cases hb' : b[i] = 45
      · exact .inl hb'
      · by_cases hab : a[i] = b[i]
        · exact .inr (hab.symm.trans z)
        · exact absurd ⟨i, _, _, List.getElem?_eq_getElem a1, e1, hz, hb', hab⟩ hc
namespace M
def both : MF := ⟨3, (.cons (.ife (.not_ (.call "_law_fits" (.cons (.v 0) (.cons (.v 1) .nil)))) (.cons (.ret (.ki 0)) .nil) .nil) (.cons (.ret (.call "_law_size" (.cons (.mt (.ks "") "join" (.cons (.lc (.n 2) (.r1 (.bi "len" (.cons (.v 0) .nil))) .no (.ix (.lst (.cons (.ix (.v 0) (.v 2)) (.cons (.ix (.v 1) (.v 2)) .nil))) (.bi "int" (.cons (.cmp .Eq (.ix (.v 0) (.v 2)) (.ks "-")) .nil)))) .nil)) .nil))) .nil))⟩
def FitsAt (Γ : FT) : Prop := ∃ Γ' n, Γ "_law_fits" = some (2, fun ds => runF Γ' n fits ds)
def SizeAt (Γ : FT) : Prop := ∃ Γ' n, Γ "_law_size" = some (1, fun ds => runF Γ' n size ds)
def bothI (a b : Tx) [Decidable (Cl a b)] : Int := if Cl a b then 0 else sizeI (mt a b)
theorem both_ok {Γ : FT} {n : Nat} {X : Str → Prop} {K : Rv → Prop} (hf : FitsAt Γ) (hs : SizeAt Γ) {w : Nat} (a b : Tx) (ha : a.length = w) (hb : b.length = w) (hw : w ≤ 1000) (q1 : Cl a b → K (.fr false (.int 0))) (q2 : ¬ Cl a b → K (.fr false (.int (sizeI (mt a b))))) : RS X (runF Γ n both [tx a, tx b]) K := by
  obtain ⟨Γ1, n1, e1⟩ := hf
  obtain ⟨Γ2, n2, e2⟩ := hs
  have hd : a.length ≤ sizeLine := sz _ (by omega)
  have hd2 : b.length ≤ sizeLine := sz _ (by omega)
  refine rs_run ?_
  simp [both, startE, e_call e1]
  refine fits_ok (Γ := Γ1) a b fun t ht => ?_
  cases t with
  | false =>
    simp
    refine q1 (Classical.byContradiction fun z => ?_)
    have := ht.mpr z
    cases this
  | true =>
    simp [e_call e2, len_tx hd]
    rw [rg1_le _ (by omega) (by omega)]
    simp
    refine rs_lc (fun i m L => m = false ∧ L = ((mt a b).take i).map fun c => tx [c]) ⟨rfl, rfl⟩ (fun i d m L hd' h => ?_) (fun m L h => ?_)
    · obtain ⟨rfl, rfl⟩ := h
      obtain ⟨hi, rfl⟩ := rngD_at hd'
      have a1 : i < a.length := by simpa using hi
      have a2 : i < b.length := by omega
      have g := take_get (mt_get a1 a2)
      have g1 := ix_tx hd (List.getElem?_eq_getElem a1)
      have g2 := ix_tx hd2 (List.getElem?_eq_getElem a2)
      have pk := pick_two (x := tx [a[i]]) (y := tx [b[i]]) (decide (a[i] = 45))
      simp only [decide_eq_true_eq] at pk
      simp [lcT, g1, g2, sz 2 (by decide)]
      rw [pk]
      by_cases hz : a[i] = 45
      · rw [if_pos hz] at g ⊢
        simp
        rw [← List.map_take, ← List.map_take, g, List.map_append]
        rfl
      · rw [if_neg hz] at g ⊢
        simp
        rw [← List.map_take, ← List.map_take, g, List.map_append]
        rfl
    · obtain ⟨rfl, rfl⟩ := h
      have hm : (mt a b).length = w := by rw [mt_len, ha, hb, Nat.min_self]
      have e : (mt a b).take (rngD 0 a.length).length = mt a b := List.take_of_length_le (by rw [hm]; simp [rngD]; omega)
      rw [e]
      refine ⟨sz _ (by simp [rngD]; omega), ?_⟩
      simp [join_sg (l := mt a b) (by omega)]
      refine size_ok (Γ := Γ2) _ (by omega) ?_
      simp
      exact q2 (ht.mp rfl)
def apart : MF := ⟨3, (.cons (.for_ (.n 1) (.r1 (.bi "len" (.cons (.v 0) .nil))) (.cons (.for_ (.n 2) (.r1 (.v 1)) (.cons (.ife (.call "_law_fits" (.cons (.ix (.v 0) (.v 1)) (.cons (.ix (.v 0) (.v 2)) .nil))) (.cons (.ret (.kb false)) .nil) .nil) .nil)) .nil)) (.cons (.ret (.kb true)) .nil))⟩
theorem apart_ok {Γ : FT} {n : Nat} {X : Str → Prop} {K : Rv → Prop} (hf : FitsAt Γ) (fs : List Tx) (hl : fs.length ≤ 1000) (h : fs.Pairwise fun a b => Cl b a) (q : K (.fr false (.bool true))) : RS X (runF Γ n apart [.list (fs.map tx)]) K := by
  obtain ⟨Γ1, n1, e1⟩ := hf
  refine rs_run ?_
  simp [apart, startE]
  rw [rg1_le _ (by omega) (by omega)]
  simp
  obtain ⟨I, hI⟩ : ∃ I : Nat → List Sl → Prop, ∀ i e, I i e = ∃ (s s' : Sl), e = [.fr true (.list (fs.map tx)), s, s'] := ⟨_, fun _ _ => rfl⟩
  refine fs_for I ?_ (fun i d e hd h' => ?_) (fun e h' => ?_)
  · rw [hI]
    exact ⟨_, _, rfl⟩
  · rw [hI] at h'
    obtain ⟨s, s', rfl⟩ := h'
    obtain ⟨hi, rfl⟩ := rngD_at hd
    have a1 : i < fs.length := by simpa using hi
    simp
    rw [rg1_le _ (by omega) (by omega)]
    simp
    obtain ⟨J, hJ⟩ : ∃ J : Nat → List Sl → Prop, ∀ j e, J j e = ∃ (s' : Sl), e = [.fr true (.list (fs.map tx)), .fr false (.int i), s'] := ⟨_, fun _ _ => rfl⟩
    refine fs_for J ?_ (fun j d e hd h' => ?_) (fun e h' => ?_)
    · rw [hJ]
      exact ⟨_, rfl⟩
    · rw [hJ] at h'
      obtain ⟨s', rfl⟩ := h'
      obtain ⟨hj, rfl⟩ := rngD_at hd
      have a2 : j < fs.length := by omega
      have g1 : semIx (.list (fs.map tx)) (.int (i : Int)) = some (tx fs[i]) := ix_list (by rw [List.getElem?_map, List.getElem?_eq_getElem a1]; rfl)
      have g2 : semIx (.list (fs.map tx)) (.int (j : Int)) = some (tx fs[j]) := ix_list (by rw [List.getElem?_map, List.getElem?_eq_getElem a2]; rfl)
      simp [e_call e1, g1, g2]
      refine fits_ok (Γ := Γ1) _ _ fun t ht => ?_
      have hc : Cl fs[i] fs[j] := List.pairwise_iff_getElem.mp h j i a2 a1 (by omega)
      have : t = false := by
        cases t with
        | false => rfl
        | true => exact absurd hc (ht.mp rfl)
      subst this
      simp
      rw [hJ]
      exact ⟨_, rfl⟩
    · rw [hJ] at h'
      obtain ⟨s', rfl⟩ := h'
      rw [hI]
      exact ⟨_, _, rfl⟩
  · rw [hI] at h'
    obtain ⟨s, s', rfl⟩ := h'
    try simp
    exact q
def less : MF := ⟨7, (.cons (.ife (.cmp .Is (.call "row_meet" (.cons (.v 0) (.cons (.v 1) .nil))) .kn) (.cons (.ret (.lst (.cons (.v 0) .nil))) .nil) .nil) (.cons (.set 2 (.lst .nil) true) (.cons (.set 3 (.v 0) false) (.cons (.for_ (.t [4, 5]) (.enum (.v 1)) (.cons (.ife (.bop true (.cons (.cmp .NotEq (.v 5) (.ks "-")) (.cons (.cmp .Eq (.ix (.v 3) (.v 4)) (.ks "-")) .nil))) (.cons (.set 6 (.ks "0") false) (.cons (.ife (.cmp .Eq (.v 5) (.ks "0")) (.cons (.set 6 (.ks "1") false) .nil) .nil) (.cons (.app 2 (.bin .Add (.bin .Add (.sl (.v 3) .no (.so (.v 4))) (.v 6)) (.sl (.v 3) (.so (.bin .Add (.v 4) (.ki 1))) .no))) (.cons (.set 3 (.bin .Add (.bin .Add (.sl (.v 3) .no (.so (.v 4))) (.v 5)) (.sl (.v 3) (.so (.bin .Add (.v 4) (.ki 1))) .no)) false) .nil)))) .nil) .nil)) (.cons (.reto 2) .nil)))))⟩
def MeetAt (Γ : FT) : Prop := ∃ Γ' n, Γ "row_meet" = some (2, fun ds => runF Γ' n meetR ds)
structure Apart (w : Nat) (one other : Tx) (fs : List Tx) (z : Int) : Prop where
  mem : ∀ f ∈ fs, Row w f ∧ Hold one f ∧ Cl f other
  apart : fs.Pairwise fun a b => Cl b a
  sum : (fs.map sizeI).sum + z = sizeI one
  few : fs.length ≤ w + 1
  cover : ∀ l, Ltr w l → Hold one l → (∃ f ∈ fs, Hold f l) ∨ Hold other l
  tells : ∀ f ∈ fs, ∀ i x : Nat, f[i]? = some x → x ≠ 45 → Told one other i
theorem less_ok {Γ : FT} {n : Nat} {X : Str → Prop} {K : Rv → Prop} (hm : MeetAt Γ) {w : Nat} (a b : Tx) (ha : Row w a) (hb : Row w b) (hw : w ≤ 999) (q1 : Cl a b → ∀ fs, Apart w a b fs 0 → K (.ow false (.list (fs.map tx)))) (q2 : ¬ Cl a b → ∀ fs, Apart w a b fs (sizeI (mt a b)) → K (.ow false (.list (fs.map tx)))) : RS X (runF Γ n less [tx a, tx b]) K := by
  obtain ⟨Γ1, n1, e1⟩ := hm
  have hal := ha.1
  have hbl := hb.1
  refine rs_run ?_
  simp [less, startE, e_call e1]
  refine meetR_ok (Γ := Γ1) a b (by omega) (fun hc => ?_) (fun hc => ?_)
  · simp
    refine ⟨sz _ (by decide), ?_⟩
    exact q1 hc [a] ⟨fun f hf => by rw [List.mem_singleton.mp hf]; exact ⟨ha, hold_self a, hc⟩, List.pairwise_singleton _ _, by simp, by simp, fun l _ h => .inl ⟨a, List.mem_singleton.mpr rfl, h⟩, fun f hf i x h1 h2 => .inl ⟨x, by rw [← List.mem_singleton.mp hf]; exact h1, h2⟩⟩
  · simp
    obtain ⟨I, hI⟩ : ∃ I : Nat → List Sl → Prop, ∀ i e, I i e = ∃ (s4 s5 s6 : Sl) (rest : Tx) (fs : List Tx) (L : D), e = [.fr false (tx a), .fr false (tx b), .ow false L, .fr false (tx rest), s4, s5, s6] ∧ L = .list (fs.map tx) ∧ Less w a b i rest fs ∧ fs.length ≤ i := ⟨_, fun _ _ => rfl⟩
    refine fs_for I ?_ (fun i d e hd h => ?_) (fun e h => ?_)
    · rw [hI]
      exact ⟨_, _, _, _, [], _, rfl, rfl, less_0 ha, Nat.le_refl _⟩
    · rw [hI] at h
      obtain ⟨s4, s5, s6, rest, fs, L, rfl, rfl, hL, hfs⟩ := h
      obtain ⟨d', hd', rfl⟩ := enum_at hd
      obtain ⟨hi, rfl⟩ := map_at hd'
      have hrl := hL.row.1
      have a3 : i < rest.length := by omega
      have e2 := List.getElem?_eq_getElem a3
      have e1 := List.getElem?_eq_getElem hi
      have hsg := hb.2 _ (List.getElem_mem hi)
      have rl : rest.length ≤ 1000 := by omega
      have g1 := ix_tx (sz _ (by omega)) e2
      generalize rest[i] = r at *
      generalize b[i] = s at *
      have keep : ¬ (s ≠ 45 ∧ r = 45) → ∀ s4 s5 s6, I (i + 1) [.fr false (tx a), .fr false (tx b), .ow false (.list (fs.map tx)), .fr false (tx rest), s4, s5, s6] := fun hn s4 s5 s6 => by
        rw [hI]
        exact ⟨_, _, _, _, fs, _, rfl, rfl, less_keep hL hc e1 e2 hn, by omega⟩
      have splt : ∀ x, r = 45 → Bt s → Bt x → x ≠ s → ∀ s4 s5 s6, I (i + 1) [.fr false (tx a), .fr false (tx b), .ow false (.list (fs.map tx ++ [tx (rest.set i x)])), .fr false (tx (rest.set i s)), s4, s5, s6] := fun x hr hs hx hxs s4 s5 s6 => by
        rw [hI]
        subst hr
        exact ⟨_, _, _, _, fs ++ [rest.set i x], _, rfl, by simp, less_split hL e1 e2 hs hx hxs, by simp; omega⟩
      have zz : fs.length < sizeLine := slt (by omega)
      simp [g1, sp_to rl, sp_from rl, sp_a1 rl, sp_a2 rl a3, zz]
      rcases hsg with hs | hs | hs
      · subst hs
        simp
        exact ⟨fun h => splt 49 h (.inl rfl) (.inr rfl) (by decide) _ _ _, fun h => keep (fun z => h z.2) _ _ _⟩
      · subst hs
        simp
        exact ⟨fun h => splt 48 h (.inr rfl) (.inl rfl) (by decide) _ _ _, fun h => keep (fun z => h z.2) _ _ _⟩
      · subst hs
        simp
        exact keep (fun z => z.1 rfl) _ _ _
    · rw [hI] at h
      obtain ⟨s4, s5, s6, rest, fs, L, rfl, rfl, hL, hfs⟩ := h
      have ew : (enumD 0 (b.map fun c => tx [c])).length = w := by rw [enumD_length, List.length_map, hbl]
      rw [ew] at hL hfs
      have hz := less_end hL ha hb
      subst hz
      simp
      exact q2 hc fs ⟨fun f hf => ⟨(hL.mem f hf).1, (hL.mem f hf).2.1, (hL.mem f hf).2.2.1⟩, hL.apart, hL.sum, by omega, fun l hl h => (hL.cover l hl h).imp id fun z => mt_hold ha hb hc z, hL.tells⟩
end M
end En
set_option Elab.async false
set_option linter.all false
set_option maxRecDepth 100000
set_option maxHeartbeats 4000000
namespace En
open PySem L2

@[simp] theorem rs_noErr {α : Type} {X : Str → Prop} (r : R α) (K : α → Prop) : RS X (noErr r) K = RS (fun _ => False) r K := by
  cases r with
  | ok a => simp
  | err x => simp [noErr]
  | bad => simp [noErr]
/-- a branch, by what holds behind both arms -/
theorem fs_cut {X : Str → Prop} {B C : List Sl → Prop} {Q : Rv → Prop} {N : List Sl → Prop} {t : Bool} {a b : Fl} (M : List Sl → Prop) (h1 : t = true → FS X B C Q a M) (h2 : t = false → FS X B C Q b M) (h3 : ∀ e, M e → N e) : FS X B C Q (ifR t a b) N := by
  cases t with
  | true => exact fs_imp (h1 rfl) h3
  | false => exact fs_imp (h2 rfl) h3
theorem isi_list (d : D) : semIsi d "list" = some (match d with | .list _ => true | _ => false) := by
  unfold semIsi
  rw [if_neg (by decide), if_neg (by decide), if_neg (by decide), if_pos rfl]
  all_goals (cases d <;> rfl)
@[simp] theorem isi_list_l (l : List D) : semIsi (.list l) "list" = some true := isi_list _
theorem allO_int : ∀ ns : List Int, allO isInt (ns.map .int) = some ns
  | [] => rfl
  | n :: ns => by
    rw [List.map_cons, allO, allO_int ns]
    rfl
theorem sum_ints (ns : List Int) : semBi "sum" [.list (ns.map .int)] = some (false, .int ns.sum) := by
  have e : semBi "sum" [.list (ns.map .int)] = s_sum [.list (ns.map .int)] := by
    unfold semBi
    rw [if_neg (by decide), if_neg (by decide), if_neg (by decide), if_pos rfl]
  rw [e]
  show (allO isInt (ns.map .int)).map (fun ns => (false, PyData.int ns.sum)) = _
  rw [allO_int]
  rfl
end En
set_option Elab.async false
set_option linter.all false
set_option maxRecDepth 100000
set_option maxHeartbeats 4000000
namespace En
open PySem L2

/-- all letters of a length -/
def choicesL : Nat → List Tx
  | 0 => [[]]
  | k + 1 => (choicesL k).map (fun c => c ++ [48]) ++ (choicesL k).map (fun c => c ++ [49])
theorem choices_len : ∀ k, (choicesL k).length = 2 ^ k
  | 0 => rfl
  | k + 1 => by
    show ((choicesL k).map _ ++ (choicesL k).map _).length = _
    rw [List.length_append, List.length_map, List.length_map, choices_len k, Nat.pow_succ]
    omega
theorem choices_ltr : ∀ {k : Nat} {c : Tx}, c ∈ choicesL k → Ltr k c
  | 0, c, h => by
    rw [List.mem_singleton.mp h]
    exact ⟨rfl, by simp⟩
  | k + 1, c, h => by
    rcases List.mem_append.mp h with h | h
    · obtain ⟨d, hd, rfl⟩ := List.mem_map.mp h
      have := choices_ltr hd
      exact ⟨by simp [this.1], M.mem_app this.2 (.inl rfl)⟩
    · obtain ⟨d, hd, rfl⟩ := List.mem_map.mp h
      have := choices_ltr hd
      exact ⟨by simp [this.1], M.mem_app this.2 (.inr rfl)⟩
theorem choices_all : ∀ {k : Nat} {c : Tx}, Ltr k c → c ∈ choicesL k
  | 0, c, h => by
    have : c = [] := List.eq_nil_of_length_eq_zero h.1
    rw [this]
    exact List.mem_singleton.mpr rfl
  | k + 1, c, h => by
    have hne : c ≠ [] := fun z => by rw [z] at h; cases h.1
    obtain ⟨d, x, rfl⟩ : ∃ d x, c = d ++ [x] := ⟨c.dropLast, c.getLast hne, (List.dropLast_concat_getLast hne).symm⟩
    have hl := h.1
    rw [List.length_append, List.length_singleton] at hl
    have hd : Ltr k d := ⟨by omega, fun y hy => h.2 y (List.mem_append_left _ hy)⟩
    have hx := h.2 x (List.mem_append_right _ (List.mem_singleton.mpr rfl))
    have := choices_all hd
    rcases hx with rfl | rfl
    · exact List.mem_append_left _ (List.mem_map.mpr ⟨d, this, rfl⟩)
    · exact List.mem_append_right _ (List.mem_map.mpr ⟨d, this, rfl⟩)
/-- signs written at places -/
def spreadL (s : Tx) (ps : List Nat) (b : Tx) : Tx := (s.zip ps).foldl (fun b x => b.set x.2 x.1) b
theorem lc_map {X : Str → Prop} {f : D → R (Option (Bool × D))} {α : Type} {xs : List α} {enc : α → D} {g : α → D} {K : Bool × List D → Prop} (hf : ∀ x ∈ xs, f (enc x) = .ok (some (false, g x))) (q : K (false, xs.map g)) : RS X (lcR f (xs.map enc)) K := by
  have e : lcR f (xs.map enc) = .ok (false, xs.map g) := by
    clear q
    induction xs with
    | nil => rfl
    | cons x xs ih =>
      show (f (enc x)).bind _ = _
      rw [hf x List.mem_cons_self, bind_ok', ih fun y hy => hf y (List.mem_cons_of_mem _ hy)]
      rfl
  rw [e, rs_ok]
  exact q
@[simp] theorem zipR_txf (m m' : Bool) (a : Tx) (b : List D) : zipR (.fr m (tx a)) (.fr m' (.list b)) = .ok (m || m', List.zipWith (fun d e => .tuple [d, e]) (a.map fun c => tx [c]) b) := zipR_ok (ds := a.map fun c => tx [c]) (es := b) (by rfl) (by rfl) (items_tx a) (by rfl)
namespace M
def width : MF := ⟨1, (.cons (.ife (.cmp .Lt (.bin .Mod (.v 0) (.ki 4)) (.ki 3)) (.cons (.ret (.bin .Add (.ki 1) (.bin .Mod (.bin .FloorDiv (.v 0) (.ki 4)) (.ki 6)))) .nil) .nil) (.cons (.ret (.bin .Add (.ki 7) (.bin .Mod (.bin .FloorDiv (.v 0) (.ki 4)) (.ki 42)))) .nil))⟩
theorem width_ok {Γ : FT} {n : Nat} {X : Str → Prop} {K : Rv → Prop} (c : Int) (q : ∀ w : Nat, 1 ≤ w → w ≤ 48 → K (.fr false (.int w))) : RS X (runF Γ n width [.int c]) K := by
  have q' : ∀ z : Int, 1 ≤ z → z ≤ 48 → K (.fr false (.int z)) := fun z h1 h2 => by
    obtain ⟨w, rfl⟩ := Int.eq_ofNat_of_zero_le (show 0 ≤ z by omega)
    exact q w (by omega) (by omega)
  refine rs_run ?_
  simp [width, startE, En.mod_int, En.div_int]
  refine ⟨fun _ => q' _ (by omega) (by omega), fun _ => q' _ (by omega) (by omega)⟩
def choices : MF := ⟨4, (.cons (.set 1 (.lst (.cons (.ks "") .nil)) false) (.cons (.for_ (.n 2) (.r1 (.v 0)) (.cons (.set 1 (.bin .Add (.lc (.n 3) (.e (.v 1)) .no (.bin .Add (.v 3) (.ks "0"))) (.lc (.n 3) (.e (.v 1)) .no (.bin .Add (.v 3) (.ks "1")))) false) .nil)) (.cons (.ret (.v 1)) .nil)))⟩
theorem choices_ok {Γ : FT} {n : Nat} {X : Str → Prop} {K : Rv → Prop} (m : Nat) (hm : m ≤ 8) (q : K (.fr false (.list ((choicesL m).map tx)))) : RS X (runF Γ n choices [.int (m : Int)]) K := by
  refine rs_run ?_
  simp [choices, startE, sz 1 (by decide)]
  rw [rg1_le _ (by omega) (by omega)]
  simp
  obtain ⟨I, hI⟩ : ∃ I : Nat → List Sl → Prop, ∀ i e, I i e = ∃ (s s' : Sl), e = [.fr false (.int (m : Int)), .fr false (.list ((choicesL i).map tx)), s, s'] := ⟨_, fun _ _ => rfl⟩
  refine fs_for I ?_ (fun i d e hd h => ?_) (fun e h => ?_)
  · rw [hI]
    exact ⟨_, _, rfl⟩
  · rw [hI] at h
    obtain ⟨s, s', rfl⟩ := h
    obtain ⟨hi, rfl⟩ := rngD_at hd
    have hp : 2 ^ i ≤ 2 ^ 8 := Nat.pow_le_pow_right (by decide) (by omega)
    have hl := choices_len i
    have ad : ∀ c ∈ choicesL i, ∀ y : Nat, semBin .Add (tx c) (tx [y]) = some (false, tx (c ++ [y])) := fun c hc y => add_tx (sz _ (by have := (choices_ltr hc).1; simp; omega))
    simp
    refine lc_map (g := fun c => tx (c ++ [48])) (fun c hc => by simp [lcT, ad c hc]) ?_
    refine ⟨sz _ (by omega), ?_⟩
    refine lc_map (g := fun c => tx (c ++ [49])) (fun c hc => by simp [lcT, ad c hc]) ?_
    refine ⟨sz _ (by omega), ?_⟩
    have al := add_list (a := (choicesL i).map fun c => tx (c ++ [48])) (b := (choicesL i).map fun c => tx (c ++ [49])) (sz _ (by rw [List.length_map, List.length_map]; omega))
    simp [al]
    rw [hI]
    have e : (choicesL (i + 1)).map tx = ((choicesL i).map fun c => tx (c ++ [48])) ++ (choicesL i).map fun c => tx (c ++ [49]) := by
      show ((choicesL i).map (fun c => c ++ [48]) ++ (choicesL i).map (fun c => c ++ [49])).map tx = _
      rw [List.map_append, List.map_map, List.map_map]
      rfl
    exact ⟨_, _, by rw [e]⟩
  · rw [hI] at h
    obtain ⟨s, s', rfl⟩ := h
    simp [rngD]
    exact q
def spread : MF := ⟨5, (.cons (.for_ (.t [3, 4]) (.zip (.v 0) (.v 1)) (.cons (.set 2 (.bin .Add (.bin .Add (.sl (.v 2) .no (.so (.v 4))) (.v 3)) (.sl (.v 2) (.so (.bin .Add (.v 4) (.ki 1))) .no)) false) .nil)) (.cons (.ret (.v 2)) .nil))⟩
theorem spread_ok {Γ : FT} {n : Nat} {X : Str → Prop} {K : Rv → Prop} (s : Tx) (ps : List Nat) (b : Tx) (hb : b.length ≤ 1000) (hp : ∀ p ∈ ps, p < b.length) (q : K (.fr false (tx (spreadL s ps b)))) : RS X (runF Γ n spread [tx s, .list (ps.map fun (p : Nat) => .int (p : Int)), tx b]) K := by
  refine rs_run ?_
  simp [spread, startE]
  obtain ⟨I, hI⟩ : ∃ I : Nat → List Sl → Prop, ∀ i e, I i e = ∃ (s' s'' : Sl) (b' : Tx), e = [.fr false (tx s), .fr true (.list (ps.map fun (p : Nat) => .int (p : Int))), .fr false (tx b'), s', s''] ∧ b'.length = b.length ∧ b' = ((s.zip ps).take i).foldl (fun b x => b.set x.2 x.1) b := ⟨_, fun _ _ => rfl⟩
  refine fs_for I ?_ (fun i d e hd h => ?_) (fun e h => ?_)
  · rw [hI]
    exact ⟨_, _, _, rfl, rfl, rfl⟩
  · rw [hI] at h
    obtain ⟨s', s'', b', rfl, hl, he⟩ := h
    obtain ⟨hi, hj, rfl⟩ := zip_at hd
    have hpi : ps[i] < b'.length := by rw [hl]; exact hp _ (List.getElem_mem hj)
    have g : ((s.zip ps).take (i + 1)) = (s.zip ps).take i ++ [(s[i], ps[i])] := take_get (by rw [List.getElem?_eq_getElem (by rw [List.length_zip]; omega), List.getElem_zip])
    have bl : b'.length ≤ 1000 := by omega
    simp [sp_to bl, sp_from bl, sp_a1 bl, sp_a2 bl hpi]
    rw [hI]
    refine ⟨_, _, _, rfl, by rw [List.length_set]; exact hl, ?_⟩
    rw [g, List.foldl_append, ← he]
    rfl
  · rw [hI] at h
    obtain ⟨s', s'', b', rfl, hl, he⟩ := h
    have e : (s.zip ps).take (List.zipWith (fun (a : Nat) (b : Nat) => PyData.tuple [tx [a], PyData.int (b : Int)]) s ps).length = s.zip ps := List.take_of_length_le (by rw [List.length_zip, List.length_zipWith]; exact Nat.le_refl _)
    rw [e] at he
    simp
    rw [he]
    exact q
end M
end En
set_option Elab.async false
set_option linter.all false
set_option maxRecDepth 100000
set_option maxHeartbeats 4000000
namespace En
open PySem L2

def putR (o : Option Sl) (i : Nat) (env : List Sl) (p : Bool × D) (y : R Rv) : Fl := match o with
  | some (.ow m (.list ds)) => .of y fun y => match y.d with
    | .int n => match ixN ds.length n with
      | some j => .next (env.set i (.ow (m || p.1) (.list (ds.set j p.2))))
      | none => .bad
    | _ => .bad
  | _ => .bad
def putJ (o : Option Nat) (m : Bool) (ds : List D) (i : Nat) (env : List Sl) (p : Bool × D) : Fl := match o with
  | some j => .next (env.set i (.ow (m || p.1) (.list (ds.set j p.2))))
  | none => .bad
@[simp] theorem putJ_some (j : Nat) (m : Bool) (ds : List D) (i : Nat) (env : List Sl) (p : Bool × D) : putJ (some j) m ds i env p = .next (env.set i (.ow (m || p.1) (.list (ds.set j p.2)))) := (rfl)
def putI (m : Bool) (ds : List D) (i : Nat) (env : List Sl) (p : Bool × D) : D → Fl
  | .int n => putJ (ixN ds.length n) m ds i env p
  | _ => .bad
@[simp] theorem putI_int (m : Bool) (ds : List D) (i : Nat) (env : List Sl) (p : Bool × D) (n : Int) : putI m ds i env p (.int n) = putJ (ixN ds.length n) m ds i env p := (rfl)
@[simp] theorem putR_ow (m : Bool) (ds : List D) (i : Nat) (env : List Sl) (p : Bool × D) (y : R Rv) : putR (some (.ow m (.list ds))) i env p y = .of y fun y => putI m ds i env p y.d := by
  simp only [putR]
  congr 1 <;> (funext y; cases y.d <;> rfl)
@[simp] theorem s_put {Γ : FT} {fuel : Nat} {env : List Sl} (i : Nat) (k e : ME) : evS Γ fuel (.put i k e) env = .of (evE Γ env e) fun x => .of (sto x) fun p => putR env[i]? i env p (evE Γ env k) := by rw [evS]; rfl
theorem ix_m1 {n : Nat} : ixN (n + 1) (-1) = some n := by
  unfold ixN
  rw [if_neg (by omega), if_pos (by omega)]
  congr 1
  omega
theorem ix_01d (i : Int) (h0 : 0 ≤ i) (h1 : i < 3) : ∃ c, Sg c ∧ semIx (tx [48, 49, 45]) (.int i) = some (tx [c]) := by
  obtain ⟨n, rfl⟩ := Int.eq_ofNat_of_zero_le h0
  have : n = 0 ∨ n = 1 ∨ n = 2 := by omega
  rcases this with rfl | rfl | rfl
  · exact ⟨48, .inl rfl, ix_tx (sz _ (by decide)) rfl⟩
  · exact ⟨49, .inr (.inl rfl), ix_tx (sz _ (by decide)) rfl⟩
  · exact ⟨45, .inr (.inr rfl), ix_tx (sz _ (by decide)) rfl⟩
namespace M
def shorts : MF := ⟨7, (.cons (.set 2 (.lst .nil) true) (.cons (.for_ (.n 3) (.e (.v 0)) (.cons (.set 4 (.bin .Add (.ki 1) (.bin .Mod (.v 3) (.ki 3))) false) (.cons (.set 5 (.lst .nil) true) (.cons (.for_ (.n 6) (.e (.call "_law_stream" (.cons (.bin .FloorDiv (.v 3) (.ki 3)) (.cons (.v 1) .nil)))) (.cons (.app 5 (.ix (.ks "01-") (.bin .Mod (.bin .FloorDiv (.v 6) (.ki 8)) (.ki 3)))) (.cons (.ife (.cmp .Lt (.bin .Mod (.v 6) (.ki 4)) (.bin .Sub (.v 4) (.ki 1))) (.cons (.put 5 (.neg (.ki 1)) (.ks "-")) .nil) .nil) .nil))) (.frz 5 (.cons (.app 2 (.mt (.ks "") "join" (.cons (.v 5) .nil))) .nil)))))) (.cons (.reto 2) .nil)))⟩
theorem shorts_ok {Γ : FT} {n : Nat} {X : Str → Prop} {K : Rv → Prop} (hs : StreamAt Γ) (cs : List Int) (m : Nat) (hm : m ≤ 1000) (hc : cs.length ≤ 1000) (q : ∀ ss : List Tx, ss.length = cs.length → (∀ s ∈ ss, Row m s) → K (.ow false (.list (ss.map tx)))) : RS X (runF Γ n shorts [.list (cs.map .int), .int (m : Int)]) K := by
  obtain ⟨Γ', n', es⟩ := hs
  refine rs_run ?_
  simp [shorts, startE]
  obtain ⟨I, hI⟩ : ∃ I : Nat → List Sl → Prop, ∀ i e, I i e = ∃ (s3 s4 s5 s6 : Sl) (ss : List Tx) (L : D), e = [.fr true (.list (cs.map .int)), .fr false (.int (m : Int)), .ow false L, s3, s4, s5, s6] ∧ L = .list (ss.map tx) ∧ ss.length = i ∧ ∀ s ∈ ss, Row m s := ⟨_, fun _ _ => rfl⟩
  refine fs_for I ?_ (fun i d e hd h => ?_) (fun e h => ?_)
  · rw [hI]
    exact ⟨_, _, _, _, [], _, rfl, rfl, rfl, by simp⟩
  · rw [hI] at h
    obtain ⟨s3, s4, s5, s6, ss, L, rfl, rfl, hl, hr⟩ := h
    obtain ⟨hi, rfl⟩ := map_at hd
    generalize cs[i] = c
    simp [En.mod_int, En.div_int, e_call es]
    refine stream_okN (c / 3) m hm fun l hll hlp => ?_
    simp
    obtain ⟨J, hJ⟩ : ∃ J : Nat → List Sl → Prop, ∀ j e, J j e = ∃ (s6 : Sl) (k : Tx) (L : D), e = [.fr true (.list (cs.map .int)), .fr false (.int (m : Int)), .ow false (.list (ss.map tx)), .fr true (.int c), .fr false (.int (1 + c % 3)), .ow false L, s6] ∧ L = .list (k.map fun c => tx [c]) ∧ k.length = j ∧ ∀ y ∈ k, Sg y := ⟨_, fun _ _ => rfl⟩
    refine fs_for J ?_ (fun j d e hd h => ?_) (fun e h => ?_)
    · rw [hJ]
      exact ⟨_, [], _, rfl, rfl, rfl, by simp⟩
    · rw [hJ] at h
      obtain ⟨s6, k, L, rfl, rfl, hk, hsg⟩ := h
      obtain ⟨hj, rfl⟩ := map_at hd
      have := hlp l[j] (List.getElem_mem hj)
      generalize l[j] = x at *
      obtain ⟨b, hb, eb⟩ := ix_01d (x / 8 % 3) (by omega) (by omega)
      have zz : k.length < sizeLine := slt (by omega)
      simp [En.mod_int, En.div_int, eb, zz, ix_m1]
      refine ⟨fun _ => ?_, fun _ => ?_⟩ <;> rw [hJ]
      · exact ⟨_, k ++ [45], _, rfl, by simp, by simp [hk], mem_app hsg (.inr (.inr rfl))⟩
      · exact ⟨_, k ++ [b], _, rfl, by simp, by simp [hk], mem_app hsg hb⟩
    · rw [hJ] at h
      obtain ⟨s6, k, L, rfl, rfl, hk, hsg⟩ := h
      rw [List.length_map] at hk
      have zz : ss.length < sizeLine := slt (by omega)
      simp [join_sg (l := k) (by omega), zz]
      rw [hI]
      refine ⟨_, _, _, _, ss ++ [k], _, rfl, by simp, by simp [hl], fun s hs => ?_⟩
      rcases List.mem_append.mp hs with hs | hs
      · exact hr s hs
      · rw [List.mem_singleton.mp hs]
        exact ⟨by omega, hsg⟩
  · rw [hI] at h
    obtain ⟨s3, s4, s5, s6, ss, L, rfl, rfl, hl, hr⟩ := h
    simp
    exact q ss (by simpa using hl) hr
end M
end En
set_option Elab.async false
set_option linter.all false
set_option maxRecDepth 100000
set_option maxHeartbeats 4000000
namespace En
open PySem L2

theorem in_ints (z : Int) (ns : List Int) : inO (.int z) (.list (ns.map .int)) = some (decide (z ∈ ns)) := by
  have e : (sc (.int z) && (ns.map PyData.int).all sc) = true := by simp [sc]
  show (if (sc (.int z) && (ns.map PyData.int).all sc) = true then some ((ns.map PyData.int).any fun y => PyData.eqv y (.int z)) else _) = _
  rw [if_pos e]
  congr 1
  rw [List.any_map, Bool.eq_iff_iff]
  simp [PyData.eqv]
theorem sorted_ints {ns : List Int} (h : ns.length < 64) : semBi "sorted" [.list (ns.map .int)] = some (true, .list ((sortI ns).map .int)) := by
  have e : semBi "sorted" [.list (ns.map .int)] = s_sorted [.list (ns.map .int)] := by
    unfold semBi
    rw [if_neg (by decide), if_neg (by decide), if_neg (by decide), if_neg (by decide), if_neg (by decide), if_neg (by decide), if_neg (by decide), if_neg (by decide), if_neg (by decide), if_pos rfl]
  rw [e]
  show ((allO isInt (ns.map .int)).bind fun ns => if ns.length < 64 then some (true, PyData.list ((sortI ns).map .int)) else none) = _
  rw [allO_int]
  show (if ns.length < 64 then _ else _) = _
  rw [if_pos h]
theorem e_lr1 {Γ : FT} {env : List Sl} (a : ME) : evE Γ env (.lr (.so a) .no) = (evE Γ env a).bind fun x => (intR x.d).bind fun o => match o with
    | some n => if -(2 ^ 62) ≤ n ∧ n < 2 ^ 62 ∧ n.toNat ≤ 2 ^ 24 then .ok (.ow false (.list (rngD 0 n.toNat))) else .bad
    | none => .bad := by
  rw [evE]
  simp only [eo_so, eo_no, bind_ok']
  cases evE Γ env a with
  | bad => rfl
  | err x => rfl
  | ok x =>
    simp only [bind_ok']
    cases x.d <;> first | rfl | simp [intR, sm, R.bind, and_assoc]
theorem rng_nat (n : Nat) : rngD 0 n = (List.range n).map fun (p : Nat) => .int (p : Int) := by
  unfold rngD
  apply List.map_congr_left
  intro p _
  simp
namespace M
def places : MF := ⟨5, (.cons (.ife (.cmp .LtE (.v 1) (.ki 6)) (.cons (.ret (.lr (.so (.v 1)) .no)) .nil) .nil) (.cons (.set 2 (.lst .nil) true) (.cons (.set 3 (.ki 5) false) (.cons (.ife (.cmp .Eq (.bin .Mod (.bin .FloorDiv (.v 0) (.ki 11)) (.ki 6)) (.ki 1)) (.cons (.set 3 (.ki 8) false) .nil) .nil) (.cons (.for_ (.n 4) (.e (.call "_law_stream" (.cons (.v 0) (.cons (.v 3) .nil)))) (.cons (.ife (.cmp .NotIn (.bin .Mod (.v 4) (.v 1)) (.v 2)) (.cons (.app 2 (.bin .Mod (.v 4) (.v 1))) .nil) .nil) .nil)) (.frz 2 (.cons (.ret (.bi "sorted" (.cons (.v 2) .nil))) .nil)))))))⟩
theorem places_ok {Γ : FT} {n : Nat} {X : Str → Prop} {K : Rv → Prop} (hs : StreamAt Γ) (c : Int) (w : Nat) (w1 : 1 ≤ w) (w2 : w ≤ 48) (q : ∀ ps : List Nat, ps.Nodup → (∀ p ∈ ps, p < w) → 1 ≤ ps.length → ps.length ≤ 8 → K (.ow false (.list (ps.map fun (p : Nat) => .int (p : Int))))) : RS X (runF Γ n places [.int c, .int (w : Int)]) K := by
  obtain ⟨Γ', n', es⟩ := hs
  refine rs_run ?_
  simp [-fs_if, places, startE, e_lr1]
  rw [fs_if]
  refine ⟨fun hw => ?_, fun hw => ?_⟩
  · have hw : w ≤ 6 := by
      have := of_decide_eq_true hw
      omega
    rw [if_pos (by omega), fs_ret]
    rw [rng_nat]
    exact q (List.range w) List.nodup_range (fun p hp => List.mem_range.mp hp) (by simpa using w1) (by simp; omega)
  · have wz : (0 : Int) < (w : Int) := by omega
    simp [-fs_if, En.mod_int, En.div_int]
    refine fs_cut (fun e => ∃ m : Nat, 1 ≤ m ∧ m ≤ 8 ∧ e = [.fr false (.int c), .fr false (.int (w : Int)), .ow false (.list []), .fr false (.int (m : Int)), .no]) (fun _ => ?_) (fun _ => ?_) (fun e h => ?_)
    · simp
      exact ⟨8, by omega, by omega, rfl⟩
    · simp
      exact ⟨5, by omega, by omega, rfl⟩
    obtain ⟨m, m1, m2, rfl⟩ := h
    simp [e_call es]
    refine stream_okN c m (by omega) fun l hl hp => ?_
    simp
    obtain ⟨I, hI⟩ : ∃ I : Nat → List Sl → Prop, ∀ i e, I i e = ∃ (s : Sl) (ks : List Int) (L : D), e = [.fr false (.int c), .fr false (.int (w : Int)), .ow false L, .fr false (.int (m : Int)), s] ∧ L = .list (ks.map .int) ∧ ks.Nodup ∧ (∀ k ∈ ks, 0 ≤ k ∧ k < w) ∧ ks.length ≤ i ∧ (1 ≤ i → 1 ≤ ks.length) := ⟨_, fun _ _ => rfl⟩
    refine fs_for I ?_ (fun i d e hd h => ?_) (fun e h => ?_)
    · rw [hI]
      exact ⟨_, [], _, rfl, rfl, List.nodup_nil, by simp, Nat.le_refl _, fun h => absurd h (by decide)⟩
    · rw [hI] at h
      obtain ⟨s, ks, L, rfl, rfl, hn, hb, hk, hk1⟩ := h
      obtain ⟨hi, rfl⟩ := map_at hd
      generalize l[i] = x
      have b1 := Int.emod_nonneg x (show (w : Int) ≠ 0 by omega)
      have b2 := Int.emod_lt_of_pos x wz
      have zz : ks.length < sizeLine := slt (by omega)
      simp [En.mod_int wz, in_ints, zz]
      refine ⟨fun hx => ?_, fun hx => ?_⟩ <;> rw [hI]
      · refine ⟨_, ks ++ [x % w], _, rfl, by simp, ?_, fun k hk' => ?_, by simp; omega, fun _ => by simp⟩
        · exact List.nodup_append.mpr ⟨hn, by simp, fun a ha b hb' => by rw [List.mem_singleton.mp hb']; exact fun z => hx (z ▸ ha)⟩
        · rcases List.mem_append.mp hk' with hk' | hk'
          · exact hb k hk'
          · rw [List.mem_singleton.mp hk']
            exact ⟨b1, b2⟩
      · exact ⟨_, ks, _, rfl, rfl, hn, hb, by omega, fun _ => List.length_pos_of_mem hx⟩
    · rw [hI] at h
      obtain ⟨s, ks, L, rfl, rfl, hn, hb, hk, hk1⟩ := h
      rw [List.length_map, hl] at hk hk1
      simp [sorted_ints (ns := ks) (by omega)]
      have pm : (sortI ks).Perm ks := List.mergeSort_perm _ _
      have e : (sortI ks).map PyData.int = ((sortI ks).map Int.toNat).map fun (p : Nat) => .int (p : Int) := by
        rw [List.map_map]
        apply List.map_congr_left
        intro k hk'
        have := hb k (pm.mem_iff.mp hk')
        show PyData.int k = .int ((k.toNat : Nat) : Int)
        rw [Int.toNat_of_nonneg this.1]
      rw [e]
      refine q _ ?_ (fun p hp' => ?_) (by rw [List.length_map, pm.length_eq]; omega) (by rw [List.length_map, pm.length_eq]; omega)
      · have : ((sortI ks).map Int.toNat).Nodup := by
          refine List.pairwise_map.mpr ?_
          refine List.Pairwise.imp_of_mem ?_ (pm.nodup_iff.mpr hn)
          intro a b ha hb' hne z
          have h1 := hb a (pm.mem_iff.mp ha)
          have h2 := hb b (pm.mem_iff.mp hb')
          exact hne (by omega)
        exact this
      · obtain ⟨k, hk', rfl⟩ := List.mem_map.mp hp'
        have := hb k (pm.mem_iff.mp hk')
        omega
end M
end En
set_option Elab.async false
set_option linter.all false
set_option maxRecDepth 100000
set_option maxHeartbeats 4000000
namespace En
open PySem L2

theorem sg_small {c : Nat} (h : Sg c) : c < 1114112 := by rcases h with h | h | h <;> omega
theorem flat_row {w : Nat} {r : Tx} (h : Row w r) : Flat (tx r) := flat_tx fun c hc => sg_small (h.2 c hc)
namespace M
def HoldsAt (Γ : FT) : Prop := ∃ Γ' n, Γ "row_holds" = some (2, fun ds => runF Γ' n rowHolds ds)
def has : MF := ⟨3, (.cons (.for_ (.n 2) (.e (.v 0)) (.cons (.ife (.call "row_holds" (.cons (.v 2) (.cons (.v 1) .nil))) (.cons (.ret (.kb true)) .nil) .nil) .nil)) (.cons (.ret (.kb false)) .nil))⟩
theorem has_ok {Γ : FT} {n : Nat} {X : Str → Prop} {K : Rv → Prop} (hh : HoldsAt Γ) (rs : List Tx) (l : Tx) (q : ∀ b : Bool, (b = true ↔ ∃ r ∈ rs, Hold r l) → K (.fr false (.bool b))) : RS X (runF Γ n has [.list (rs.map tx), tx l]) K := by
  obtain ⟨Γ', n', e⟩ := hh
  refine rs_run ?_
  simp [has, startE]
  obtain ⟨I, hI⟩ : ∃ I : Nat → List Sl → Prop, ∀ i e, I i e = ∃ (s : Sl), e = [.fr true (.list (rs.map tx)), .fr false (tx l), s] ∧ ∀ r ∈ rs.take i, ¬ Hold r l := ⟨_, fun _ _ => rfl⟩
  refine fs_for I ?_ (fun i d e' hd h => ?_) (fun e' h => ?_)
  · rw [hI]
    exact ⟨_, rfl, by simp⟩
  · rw [hI] at h
    obtain ⟨s, rfl, h⟩ := h
    obtain ⟨hi, rfl⟩ := map_at hd
    have g := take_get (List.getElem?_eq_getElem hi)
    have hm := List.getElem_mem hi
    generalize rs[i] = r at *
    simp [e_call e]
    refine rowHolds_ok (Γ := Γ') r l fun b hb => ?_
    simp
    refine ⟨fun hbt => q true ⟨fun _ => ⟨r, hm, hb.mp hbt⟩, fun _ => rfl⟩, fun hbf => ?_⟩
    rw [hI]
    refine ⟨_, rfl, fun r' hr' => ?_⟩
    rw [g] at hr'
    rcases List.mem_append.mp hr' with hr' | hr'
    · exact h r' hr'
    · rw [List.mem_singleton.mp hr']
      exact fun z => by rw [hb.mpr z] at hbf; cases hbf
  · rw [hI] at h
    obtain ⟨s, rfl, h⟩ := h
    try simp
    refine q false ⟨fun z => (nomatch z), fun ⟨r, hr, hz⟩ => ?_⟩
    rw [List.length_map, List.take_of_length_le (Nat.le_refl _)] at h
    exact absurd hz (h r hr)
end M
end En
set_option Elab.async false
set_option linter.all false
set_option maxRecDepth 100000
set_option maxHeartbeats 4000000
namespace En
open PySem L2

@[simp] theorem imms_tx (l : List Tx) : imms (l.map tx) = true := by
  induction l with
  | nil => simp
  | cons a l ih => simp [ih]
/-- whether a choice fits some row -/
noncomputable def fitsAny (ss : List Tx) (c : Tx) : Bool := @decide (∃ s ∈ ss, ¬ Cl s c) (Classical.propDecidable _)
theorem fitsAny_iff {ss : List Tx} {c : Tx} : fitsAny ss c = true ↔ ∃ s ∈ ss, ¬ Cl s c := by
  unfold fitsAny
  exact @decide_eq_true_iff _ (Classical.propDecidable _)
namespace M
def ChoicesAt (Γ : FT) : Prop := ∃ Γ' n, Γ "_law_choices" = some (1, fun ds => runF Γ' n choices ds)
def good : MF := ⟨5, (.cons (.set 2 (.lst .nil) true) (.cons (.for_ (.n 3) (.e (.call "_law_choices" (.cons (.v 1) .nil))) (.cons (.ife (.cmp .NotEq (.lc (.n 4) (.e (.v 0)) (.so (.call "_law_fits" (.cons (.v 4) (.cons (.v 3) .nil)))) (.v 4)) (.lst .nil)) (.cons (.app 2 (.v 3)) .nil) .nil) .nil)) (.cons (.reto 2) .nil)))⟩
theorem good_ok {Γ : FT} {n : Nat} {X : Str → Prop} {K : Rv → Prop} (hc : ChoicesAt Γ) (hf : FitsAt Γ) {m : Nat} (hm : m ≤ 8) (ss : List Tx) (hl : ss.length ≤ 1000) (hs : ∀ s ∈ ss, Row m s) (q : K (.ow false (.list (((choicesL m).filter (fitsAny ss)).map tx)))) : RS X (runF Γ n good [.list (ss.map tx), .int (m : Int)]) K := by
  obtain ⟨Γ1, n1, e1⟩ := hc
  obtain ⟨Γ2, n2, e2⟩ := hf
  refine rs_run ?_
  simp [good, startE, e_call e1]
  refine choices_ok (Γ := Γ1) m hm ?_
  simp
  obtain ⟨I, hI⟩ : ∃ I : Nat → List Sl → Prop, ∀ i e, I i e = ∃ (s s' : Sl) (L : D), e = [.fr true (.list (ss.map tx)), .fr false (.int (m : Int)), .ow false L, s, s'] ∧ L = .list ((((choicesL m).take i).filter (fitsAny ss)).map tx) := ⟨_, fun _ _ => rfl⟩
  refine fs_for I ?_ (fun i d e hd h => ?_) (fun e h => ?_)
  · rw [hI]
    exact ⟨_, _, _, rfl, rfl⟩
  · rw [hI] at h
    obtain ⟨s, s', L, rfl, rfl⟩ := h
    obtain ⟨hi, rfl⟩ := map_at hd
    have g := take_get (List.getElem?_eq_getElem hi)
    have hcl := choices_ltr (List.getElem_mem hi)
    have few : (((choicesL m).take i).filter (fitsAny ss)).length < sizeLine := slt (by
      have a1 := List.length_filter_le (fitsAny ss) ((choicesL m).take i)
      have a2 := choices_len m
      have a3 : 2 ^ m ≤ 2 ^ 8 := Nat.pow_le_pow_right (by decide) hm
      rw [List.length_take] at a1
      omega)
    generalize (choicesL m)[i] = c at *
    simp
    refine rs_lc (fun j mm L => mm = false ∧ ∃ fl : List Tx, L = fl.map tx ∧ (∀ f ∈ fl, f ∈ ss) ∧ (fl = [] ↔ ∀ s ∈ ss.take j, Cl s c)) ⟨rfl, [], rfl, by simp, by simp⟩ (fun j d mm L hd' h => ?_) (fun mm L h => ?_)
    · obtain ⟨rfl, fl, rfl, hfl, hfe⟩ := h
      obtain ⟨hj, rfl⟩ := map_at hd'
      have gj := take_get (List.getElem?_eq_getElem hj)
      have hmem := List.getElem_mem hj
      generalize ss[j] = s at *
      simp [lcT, e_call e2]
      refine fits_ok (Γ := Γ2) s c fun t ht => ?_
      cases t with
      | true =>
        simp
        refine ⟨fl ++ [s], by simp, fun f hf => ?_, ?_⟩
        · rcases List.mem_append.mp hf with hf | hf
          · exact hfl f hf
          · rw [List.mem_singleton.mp hf]; exact hmem
        · refine ⟨fun z => absurd z (by simp), fun z => ?_⟩
          exact absurd (z s (by rw [gj]; simp)) (ht.mp rfl)
      | false =>
        simp
        refine ⟨fl, rfl, hfl, ?_⟩
        rw [hfe, gj]
        refine ⟨fun z s' hs' => ?_, fun z s' hs' => z s' (List.mem_append_left _ hs')⟩
        rcases List.mem_append.mp hs' with hs' | hs'
        · exact z s' hs'
        · rw [List.mem_singleton.mp hs']
          exact Classical.byContradiction fun h => by have := ht.mpr h; cases this
    · obtain ⟨rfl, fl, rfl, hfl, hfe⟩ := h
      rw [List.length_map, List.take_of_length_le (Nat.le_refl _)] at hfe
      rw [eq_nil (l := fl.map tx) (fun d hd => by obtain ⟨f, hf, rfl⟩ := List.mem_map.mp hd; exact flat_row (hs f (hfl f hf)))]
      refine ⟨sz _ (by omega), ?_⟩
      have key : fitsAny ss c = !decide (fl.map tx = []) := by
        rw [Bool.eq_iff_iff, fitsAny_iff]
        simp
        rw [hfe]
        simp
      have gf : ((choicesL m).take (i + 1)).filter (fitsAny ss) = ((choicesL m).take i).filter (fitsAny ss) ++ (if fitsAny ss c then [c] else []) := by
        rw [g, List.filter_append]
        congr 1
        rw [List.filter_cons, List.filter_nil]
      rw [Option.map_some, liftB_some, rs_ok, truth_b, rs_ok, ← key]
      refine ⟨fun hk => ⟨few, ?_⟩, fun hk => ?_⟩ <;> rw [hI]
      · refine ⟨_, _, _, rfl, ?_⟩
        rw [gf, if_pos hk, List.map_append]
        rfl
      · refine ⟨_, _, _, rfl, ?_⟩
        rw [gf, if_neg (by rw [hk]; decide), List.append_nil]
  · rw [hI] at h
    obtain ⟨s, s', L, rfl, rfl⟩ := h
    rw [List.length_map, List.take_of_length_le (Nat.le_refl _)]
    simp
    exact q
end M
end En
set_option Elab.async false
set_option linter.all false
set_option maxRecDepth 100000
set_option maxHeartbeats 4000000
namespace En
open PySem L2

theorem nodup_le {α : Type} [DecidableEq α] : ∀ {l m : List α}, l.Nodup → (∀ a ∈ l, a ∈ m) → l.length ≤ m.length
  | [], m, _, _ => Nat.zero_le _
  | a :: l, m, hn, hs => by
    have hn' := List.nodup_cons.mp hn
    have ha := hs a List.mem_cons_self
    have := nodup_le (l := l) (m := m.erase a) hn'.2 fun b hb => by
      have hne : b ≠ a := fun z => hn'.1 (z ▸ hb)
      exact (List.mem_erase_of_ne hne).mpr (hs b (List.mem_cons_of_mem _ hb))
    rw [List.length_erase_of_mem ha] at this
    have := List.length_pos_of_mem ha
    rw [List.length_cons]
    omega
/-- a row's signs at places, where it tells none the first one -/
def atP (ps : List Nat) (r : Tx) : Tx := ps.map fun p => if r.getD p 45 = 45 then 48 else r.getD p 45
theorem atP_ltr {w : Nat} {r : Tx} (ps : List Nat) (h : Row w r) : Ltr ps.length (atP ps r) := by
  refine ⟨by simp [atP], fun c hc => ?_⟩
  obtain ⟨p, hp, rfl⟩ := List.mem_map.mp hc
  show Bt (if r.getD p 45 = 45 then 48 else r.getD p 45)
  split
  · exact .inl rfl
  · rename_i hz
    rw [List.getD_eq_getElem?_getD] at hz ⊢
    cases e : r[p]? with
    | none => rw [e] at hz; exact absurd rfl hz
    | some x =>
      rw [e] at hz
      obtain ⟨hi, ex⟩ := List.getElem?_eq_some_iff.mp e
      have := h.2 x (by rw [← ex]; exact List.getElem_mem hi)
      rcases this with h1 | h1 | h1
      · exact .inl h1
      · exact .inr h1
      · exact absurd h1 hz
theorem few_rows {w : Nat} {rs : List Tx} {ps : List Nat} (hr : ∀ r ∈ rs, Row w r) (ht : ∀ r ∈ rs, ∀ i x : Nat, r[i]? = some x → x ≠ 45 → i ∈ ps) (ha : rs.Pairwise fun a b => Cl b a) : rs.length ≤ 2 ^ ps.length := by
  have h1 : (rs.map (atP ps)).Nodup := by
    refine List.pairwise_map.mpr ?_
    refine List.Pairwise.imp_of_mem ?_ ha
    intro a b hma hmb ⟨i, x, y, e1, e2, n1, n2, n3⟩ z
    have hi := ht b hmb i x e1 n1
    have key : ∀ p ∈ ps, (if a.getD p 45 = 45 then 48 else a.getD p 45) = (if b.getD p 45 = 45 then 48 else b.getD p 45) := fun p hp => by
      have : ps.map (fun p => if a.getD p 45 = 45 then 48 else a.getD p 45) = ps.map fun p => if b.getD p 45 = 45 then 48 else b.getD p 45 := z
      exact List.map_inj_left.mp this p hp
    have k := key i hi
    rw [List.getD_eq_getElem?_getD, List.getD_eq_getElem?_getD, e1, e2] at k
    simp [n1, n2] at k
    exact n3 k.symm
  have h2 := nodup_le h1 (m := choicesL ps.length) fun c hc => by
    obtain ⟨r, hm, rfl⟩ := List.mem_map.mp hc
    exact choices_all (atP_ltr ps (hr r hm))
  rw [List.length_map, choices_len] at h2
  exact h2
end En
set_option Elab.async false
set_option linter.all false
set_option maxRecDepth 100000
set_option maxHeartbeats 4000000
namespace En
open PySem L2

theorem cl_hold {w : Nat} {a b f o : Tx} (h : Cl a b) (hf : Row w f) (ho : Row w o) (ha : Row w a) (hb : Row w b) (h1 : Hold a f) (h2 : Hold b o) : Cl f o := by
  obtain ⟨i, x, y, e1, e2, n1, n2, n3⟩ := h
  have hi := (List.getElem?_eq_some_iff.mp e1).1
  rw [ha.1] at hi
  have e3 := List.getElem?_eq_getElem (l := f) (i := i) (by rw [hf.1]; exact hi)
  have e4 := List.getElem?_eq_getElem (l := o) (i := i) (by rw [ho.1]; exact hi)
  have k1 := (h1 i _ _ e1 e3).resolve_left n1
  have k2 := (h2 i _ _ e2 e4).resolve_left n2
  exact ⟨i, x, y, by rw [e3, ← k1], by rw [e4, ← k2], n1, n2, n3⟩
theorem hold_trans {a b l : Tx} {w : Nat} (hb : Row w b) (ha : Row w a) (hl : Row w l) (h1 : Hold a b) (h2 : Hold b l) : Hold a l := fun i x y e1 e2 => by
  have hi := (List.getElem?_eq_some_iff.mp e1).1
  rw [ha.1] at hi
  have e3 := List.getElem?_eq_getElem (l := b) (i := i) (by rw [hb.1]; exact hi)
  rcases h1 i _ _ e1 e3 with z | z
  · exact .inl z
  · rcases h2 i _ _ e3 e2 with z2 | z2
    · exact .inl (by rw [z, z2])
    · exact .inr (by rw [z, z2])
theorem cl_no {a l : Tx} {w : Nat} {f : Tx} (hf : Row w f) (ho : Row w a) (hl : Ltr w l) (h : Cl f a) (h1 : Hold f l) : ¬ Hold a l := fun h2 => by
  obtain ⟨i, x, y, e1, e2, n1, n2, n3⟩ := h
  have hi := (List.getElem?_eq_some_iff.mp e1).1
  rw [hf.1] at hi
  have e3 := List.getElem?_eq_getElem (l := l) (i := i) (by rw [hl.1]; exact hi)
  have k1 := (h1 i _ _ e1 e3).resolve_left n1
  have k2 := (h2 i _ _ e2 e3).resolve_left n2
  exact n3 (k1.trans k2.symm)
/-- rows apart, that tell some places alone, with the letters of S -/
structure Pcs (w : Nat) (ps : List Nat) (S : Tx → Prop) (rs : List Tx) : Prop where
  row : ∀ r ∈ rs, Row w r
  tell : ∀ r ∈ rs, ∀ i x : Nat, r[i]? = some x → x ≠ 45 → i ∈ ps
  apart : rs.Pairwise fun a b => Cl b a
  cov : ∀ l, Ltr w l → ((∃ r ∈ rs, Hold r l) ↔ S l)
theorem Pcs.few {w : Nat} {ps : List Nat} {S : Tx → Prop} {rs : List Tx} (h : Pcs w ps S rs) : rs.length ≤ 2 ^ ps.length := few_rows h.row h.tell h.apart
/-- pieces less a row: piece by piece -/
theorem pcs_step {w : Nat} {ps : List Nat} {done out fs : List Tx} {p row : Tx} {z : Int} (O : Pcs w ps (fun l => ∃ r ∈ done, Hold r l ∧ ¬ Hold row l) out) (hin : ∀ o ∈ out, ∃ r ∈ done, Hold r o) (hrow : Row w row) (htr : ∀ i x : Nat, row[i]? = some x → x ≠ 45 → i ∈ ps)
    (hd : ∀ r ∈ done, Row w r) (hp : Row w p) (htp : ∀ i x : Nat, p[i]? = some x → x ≠ 45 → i ∈ ps) (hap : ∀ r ∈ done, Cl p r) (A : M.Apart w p row fs z) :
    Pcs w ps (fun l => ∃ r ∈ done ++ [p], Hold r l ∧ ¬ Hold row l) (out ++ fs) ∧ ∀ o ∈ out ++ fs, ∃ r ∈ done ++ [p], Hold r o := by
  refine ⟨⟨fun r hr => ?_, fun r hr i x e n => ?_, ?_, fun l hl => ⟨fun h => ?_, fun h => ?_⟩⟩, fun o ho => ?_⟩
  · rcases List.mem_append.mp hr with hr | hr
    · exact O.row r hr
    · exact (A.mem r hr).1
  · rcases List.mem_append.mp hr with hr | hr
    · exact O.tell r hr i x e n
    · rcases A.tells r hr i x e n with ⟨y, e', n'⟩ | ⟨y, e', n'⟩
      · exact htp i y e' n'
      · exact htr i y e' n'
  · refine List.pairwise_append.mpr ⟨O.apart, A.apart, fun o ho f hf => ?_⟩
    obtain ⟨r, hr, hro⟩ := hin o ho
    exact cl_hold (hap r hr) (A.mem f hf).1 (O.row o ho) hp (hd r hr) (A.mem f hf).2.1 hro
  · obtain ⟨r, hr, h⟩ := h
    rcases List.mem_append.mp hr with hr | hr
    · obtain ⟨r', hr', h'⟩ := (O.cov l hl).mp ⟨r, hr, h⟩
      exact ⟨r', List.mem_append_left _ hr', h'⟩
    · obtain ⟨q1, q2, q3⟩ := A.mem r hr
      exact ⟨p, List.mem_append_right _ (List.mem_singleton.mpr rfl), hold_trans q1 hp hl.row q2 h, cl_no q1 hrow hl q3 h⟩
  · obtain ⟨r, hr, h1, h2⟩ := h
    rcases List.mem_append.mp hr with hr | hr
    · obtain ⟨o, ho, h⟩ := (O.cov l hl).mpr ⟨r, hr, h1, h2⟩
      exact ⟨o, List.mem_append_left _ ho, h⟩
    · rw [List.mem_singleton.mp hr] at h1
      rcases A.cover l hl h1 with ⟨f, hf, h⟩ | h
      · exact ⟨f, List.mem_append_right _ hf, h⟩
      · exact absurd h h2
  · rcases List.mem_append.mp ho with ho | ho
    · obtain ⟨r, hr, h⟩ := hin o ho
      exact ⟨r, List.mem_append_left _ hr, h⟩
    · exact ⟨p, List.mem_append_right _ (List.mem_singleton.mpr rfl), (A.mem o ho).2.1⟩
theorem pcs_nil {w : Nat} {ps : List Nat} {row : Tx} : Pcs w ps (fun l => ∃ r ∈ ([] : List Tx), Hold r l ∧ ¬ Hold row l) [] :=
  ⟨fun r h => (nomatch h), fun r h => (nomatch h), .nil, fun l _ => by simp⟩
end En
set_option Elab.async false
set_option linter.all false
set_option maxRecDepth 100000
set_option maxHeartbeats 4000000
namespace En
open PySem L2

theorem Pcs.iff {w : Nat} {ps : List Nat} {S S' : Tx → Prop} {rs : List Tx} (h : Pcs w ps S rs) (e : ∀ l, Ltr w l → (S l ↔ S' l)) : Pcs w ps S' rs := ⟨h.row, h.tell, h.apart, fun l hl => (h.cov l hl).trans (e l hl)⟩
namespace M
def LessAt (Γ : FT) : Prop := ∃ Γ' n, MeetAt Γ' ∧ Γ "row_less" = some (2, fun ds => runF Γ' n less ds)
def beyond : MF := ⟨5, (.cons (.for_ (.n 2) (.e (.v 1)) (.cons (.set 3 (.lst .nil) true) (.cons (.for_ (.n 4) (.e (.v 0)) (.cons (.ext 3 (.call "row_less" (.cons (.v 4) (.cons (.v 2) .nil)))) .nil)) (.frz 3 (.cons (.set 0 (.v 3) false) .nil))))) (.cons (.ret (.v 0)) .nil))⟩
theorem beyond_ok {Γ : FT} {n : Nat} {X : Str → Prop} {K : Rv → Prop} (hl : LessAt Γ) {w : Nat} {ps : List Nat} {S : Tx → Prop} (hw : w ≤ 900) (hps : ps.length ≤ 8) (rs rows : List Tx) (P : Pcs w ps S rs) (hrow : ∀ r ∈ rows, Row w r)
    (htell : ∀ r ∈ rows, ∀ i x : Nat, r[i]? = some x → x ≠ 45 → i ∈ ps) (q : ∀ (m : Bool) (out : List Tx), Pcs w ps (fun l => S l ∧ ∀ r ∈ rows, ¬ Hold r l) out → K (.fr m (.list (out.map tx)))) : RS X (runF Γ n beyond [.list (rs.map tx), .list (rows.map tx)]) K := by
  obtain ⟨Γ', n', hm, e⟩ := hl
  have p8 : 2 ^ ps.length ≤ 2 ^ 8 := Nat.pow_le_pow_right (by decide) hps
  refine rs_run ?_
  simp [beyond, startE]
  obtain ⟨I, hI⟩ : ∃ I : Nat → List Sl → Prop, ∀ i e, I i e = ∃ (m : Bool) (out : List Tx) (s2 s3 s4 : Sl), e = [.fr m (.list (out.map tx)), .fr true (.list (rows.map tx)), s2, s3, s4] ∧ Pcs w ps (fun l => S l ∧ ∀ r ∈ rows.take i, ¬ Hold r l) out := ⟨_, fun _ _ => rfl⟩
  refine fs_for I ?_ (fun i d e' hd h => ?_) (fun e' h => ?_)
  · rw [hI]
    exact ⟨_, rs, _, _, _, rfl, P.iff fun l _ => by simp⟩
  · rw [hI] at h
    obtain ⟨m, out, s2, s3, s4, rfl, hP⟩ := h
    obtain ⟨hi, rfl⟩ := map_at hd
    have g := take_get (List.getElem?_eq_getElem hi)
    have hr := hrow _ (List.getElem_mem hi)
    have htr := htell _ (List.getElem_mem hi)
    generalize rows[i] = row at *
    have fo := hP.few
    simp
    obtain ⟨J, hJ⟩ : ∃ J : Nat → List Sl → Prop, ∀ j e, J j e = ∃ (s4 : Sl) (lo : List Tx) (L : D), e = [.fr m (.list (out.map tx)), .fr true (.list (rows.map tx)), .fr true (tx row), .ow false L, s4] ∧ L = .list (lo.map tx) ∧ Pcs w ps (fun l => ∃ r ∈ out.take j, Hold r l ∧ ¬ Hold row l) lo ∧ ∀ o ∈ lo, ∃ r ∈ out.take j, Hold r o := ⟨_, fun _ _ => rfl⟩
    refine fs_for J ?_ (fun j d e' hd h => ?_) (fun e' h => ?_)
    · rw [hJ]
      exact ⟨_, [], _, rfl, rfl, pcs_nil (row := row), by simp⟩
    · rw [hJ] at h
      obtain ⟨s4, lo, L, rfl, rfl, hO, hin⟩ := h
      obtain ⟨hj, rfl⟩ := map_at hd
      have gj := take_get (List.getElem?_eq_getElem hj)
      have hmem := List.getElem_mem hj
      have hap : ∀ r ∈ out.take j, Cl out[j] r := fun r hr' => by
        obtain ⟨k, hk, rfl⟩ := List.getElem_of_mem hr'
        rw [List.length_take] at hk
        rw [List.getElem_take]
        exact List.pairwise_iff_getElem.mp hP.apart k j (by omega) hj (by omega)
      have hp := hP.row _ hmem
      have htp := hP.tell _ hmem
      generalize out[j] = p at *
      have fl := hO.few
      simp [e_call e]
      have fin : ∀ (fs : List Tx) (z : Int), Apart w p row fs z → lo.length + fs.length ≤ sizeLine ∧ J (j + 1) [.fr m (.list (out.map tx)), .fr true (.list (rows.map tx)), .fr true (tx row), .ow false (.list (lo.map tx ++ fs.map tx)), .fr m (tx p)] := fun fs z A => by
        refine ⟨sz _ (by have := A.few; omega), ?_⟩
        rw [hJ]
        obtain ⟨a1, a2⟩ := pcs_step hO hin hr htr (fun r hr' => hP.row r (List.mem_of_mem_take hr')) hp htp hap A
        exact ⟨_, lo ++ fs, _, rfl, by simp, by rw [gj]; exact a1, by rw [gj]; exact a2⟩
      refine less_ok (Γ := Γ') hm p row hp hr (by omega) (fun _ fs A => ?_) (fun _ fs A => ?_)
      · simp
        exact fin fs _ A
      · simp
        exact fin fs _ A
    · rw [hJ] at h
      obtain ⟨s4, lo, L, rfl, rfl, hO, hin⟩ := h
      rw [List.length_map, List.take_of_length_le (Nat.le_refl _)] at hO
      simp
      rw [hI]
      refine ⟨_, lo, _, _, _, rfl, hO.iff fun l hl => ?_⟩
      rw [g]
      constructor
      · rintro ⟨r, hr', h1, h2⟩
        obtain ⟨z1, z2⟩ := (hP.cov l hl).mp ⟨r, hr', h1⟩
        refine ⟨z1, fun r' hr'' => ?_⟩
        rcases List.mem_append.mp hr'' with h | h
        · exact z2 r' h
        · rw [List.mem_singleton.mp h]; exact h2
      · rintro ⟨z1, z2⟩
        obtain ⟨r, hr', h1⟩ := (hP.cov l hl).mpr ⟨z1, fun r' hr'' => z2 r' (List.mem_append_left _ hr'')⟩
        exact ⟨r, hr', h1, z2 row (List.mem_append_right _ (List.mem_singleton.mpr rfl))⟩
  · rw [hI] at h
    obtain ⟨m, out, s2, s3, s4, rfl, hP⟩ := h
    rw [List.length_map, List.take_of_length_le (Nat.le_refl _)] at hP
    simp
    exact q m out hP
end M
end En
set_option Elab.async false
set_option linter.all false
set_option maxRecDepth 100000
set_option maxHeartbeats 4000000
namespace En
open PySem L2

/-- rows that do not clash have a letter in common -/
theorem common {w : Nat} {a b : Tx} (ha : Row w a) (hb : Row w b) (h : ¬ Cl a b) : ∃ l, Ltr w l ∧ Hold a l ∧ Hold b l := by
  have key : ∀ i (h1 : i < a.length) (h2 : i < b.length), ((mt a b).map fun c => if c = 45 then 48 else c)[i]? = some (if (if a[i] = 45 then b[i] else a[i]) = 45 then 48 else (if a[i] = 45 then b[i] else a[i])) := fun i h1 h2 => by
    rw [List.getElem?_map, mt_get h1 h2]
    rfl
  refine ⟨(mt a b).map fun c => if c = 45 then 48 else c, ⟨by rw [List.length_map, mt_len, ha.1, hb.1, Nat.min_self], fun c hc => ?_⟩, fun i x y e1 e2 => ?_, fun i x y e1 e2 => ?_⟩
  · obtain ⟨d, hd, rfl⟩ := List.mem_map.mp hc
    obtain ⟨i, hi, e⟩ := List.getElem_of_mem hd
    rw [mt_len] at hi
    have g := mt_get (r := a) (o := b) (i := i) (by omega) (by omega)
    rw [List.getElem?_eq_getElem (by rw [mt_len]; exact hi), e] at g
    have sg : Sg d := by
      have := Option.some.inj g
      rw [this]
      split
      · exact hb.2 _ (List.getElem_mem _)
      · exact ha.2 _ (List.getElem_mem _)
    show Bt (if d = 45 then 48 else d)
    split
    · exact .inl rfl
    · rename_i hz
      rcases sg with h | h | h
      · exact .inl h
      · exact .inr h
      · exact absurd h hz
  · have hi := (List.getElem?_eq_some_iff.mp e1).1
    have h2 : i < b.length := by rw [hb.1, ← ha.1]; exact hi
    rw [key i hi h2] at e2
    rw [List.getElem?_eq_getElem hi] at e1
    cases e1
    by_cases hz : a[i] = 45
    · exact .inl hz
    · rw [if_neg hz, if_neg hz] at e2
      exact .inr (Option.some.inj e2)
  · have hi := (List.getElem?_eq_some_iff.mp e1).1
    have h1 : i < a.length := by rw [ha.1, ← hb.1]; exact hi
    rw [key i h1 hi] at e2
    have ex := e1
    rw [List.getElem?_eq_getElem hi] at e1
    cases e1
    by_cases hb' : b[i] = 45
    · exact .inl hb'
    · by_cases hz : a[i] = 45
      · rw [if_pos hz, if_neg hb'] at e2
        exact .inr (Option.some.inj e2)
      · rw [if_neg hz, if_neg hz] at e2
        by_cases hab : a[i] = b[i]
        · exact .inr (hab.symm.trans (Option.some.inj e2))
        · exact absurd ⟨i, _, _, List.getElem?_eq_getElem h1, ex, hz, hb', hab⟩ h
namespace M
def BeyondAt (Γ : FT) : Prop := ∃ Γ' n, LessAt Γ' ∧ Γ "pieces_beyond" = some (2, fun ds => runF Γ' n beyond ds)
def heapApart : MF := ⟨4, (.cons (.set 1 (.lst .nil) true) (.cons (.for_ (.t [2, 3]) (.enum (.v 0)) (.cons (.ext 1 (.call "pieces_beyond" (.cons (.lst (.cons (.v 3) .nil)) (.cons (.sl (.v 0) .no (.so (.v 2))) .nil)))) .nil)) (.cons (.reto 1) .nil)))⟩
theorem heapApart_ok {Γ : FT} {n : Nat} {X : Str → Prop} {K : Rv → Prop} (hl : BeyondAt Γ) {w : Nat} {ps : List Nat} (hw : w ≤ 900) (hps : ps.length ≤ 8) (rows : List Tx) (hfew : rows.length ≤ 1000) (hrow : ∀ r ∈ rows, Row w r)
    (htell : ∀ r ∈ rows, ∀ i x : Nat, r[i]? = some x → x ≠ 45 → i ∈ ps) (q : ∀ (m : Bool) (out : List Tx), Pcs w ps (fun l => ∃ r ∈ rows, Hold r l) out → K (.ow m (.list (out.map tx)))) : RS X (runF Γ n heapApart [.list (rows.map tx)]) K := by
  obtain ⟨Γ', n', hb, e⟩ := hl
  have p8 : 2 ^ ps.length ≤ 2 ^ 8 := Nat.pow_le_pow_right (by decide) hps
  refine rs_run ?_
  simp [heapApart, startE]
  obtain ⟨I, hI⟩ : ∃ I : Nat → List Sl → Prop, ∀ i e, I i e = ∃ (m : Bool) (out : List Tx) (L : D) (s2 s3 : Sl), e = [.fr true (.list (rows.map tx)), .ow m L, s2, s3] ∧ L = .list (out.map tx) ∧ Pcs w ps (fun l => ∃ r ∈ rows.take i, Hold r l) out := ⟨_, fun _ _ => rfl⟩
  refine fs_for I ?_ (fun i d e' hd h => ?_) (fun e' h => ?_)
  · rw [hI]
    exact ⟨_, [], _, _, _, rfl, rfl, ⟨fun r h => (nomatch h), fun r h => (nomatch h), .nil, fun l _ => by simp⟩⟩
  · rw [hI] at h
    obtain ⟨m, out, L, s2, s3, rfl, rfl, hP⟩ := h
    obtain ⟨d', hd', rfl⟩ := enum_at hd
    obtain ⟨hi, rfl⟩ := map_at hd'
    have g := take_get (List.getElem?_eq_getElem hi)
    have hr := hrow _ (List.getElem_mem hi)
    have htr := htell _ (List.getElem_mem hi)
    generalize rows[i] = row at *
    have fo := hP.few
    have ct : cutL (rows.map tx) none (some (i : Int)) = (rows.take i).map tx := by rw [cut_to, List.map_take]
    simp [e_call e, ct, sz 1 (by decide)]
    have one : Pcs w ps (fun l => Hold row l) [row] := ⟨fun r h => by rw [List.mem_singleton.mp h]; exact hr, fun r h => by rw [List.mem_singleton.mp h]; exact htr, List.pairwise_singleton _ _, fun l _ => by simp⟩
    rw [← List.map_take]
    refine beyond_ok (Γ := Γ') hb hw hps [row] (rows.take i) one (fun r h => hrow r (List.mem_of_mem_take h)) (fun r h => htell r (List.mem_of_mem_take h)) fun m' o2 hQ => ?_
    have fq := hQ.few
    simp
    refine ⟨sz _ (by omega), ?_⟩
    rw [hI]
    refine ⟨_, out ++ o2, _, _, _, rfl, by simp, ⟨fun r h => ?_, fun r h => ?_, ?_, fun l hl => ?_⟩⟩
    · exact (List.mem_append.mp h).elim (hP.row r) (hQ.row r)
    · exact (List.mem_append.mp h).elim (hP.tell r) (hQ.tell r)
    · refine List.pairwise_append.mpr ⟨hP.apart, hQ.apart, fun a ha b hb' => Classical.byContradiction fun hn => ?_⟩
      obtain ⟨l, hl, h1, h2⟩ := common (hQ.row b hb') (hP.row a ha) hn
      obtain ⟨r, hr', h3⟩ := (hP.cov l hl).mp ⟨a, ha, h2⟩
      exact ((hQ.cov l hl).mp ⟨b, hb', h1⟩).2 r hr' h3
    · rw [g]
      constructor
      · rintro ⟨r, hr', h1⟩
        rcases List.mem_append.mp hr' with h | h
        · obtain ⟨r', hr'', h2⟩ := (hP.cov l hl).mp ⟨r, h, h1⟩
          exact ⟨r', List.mem_append_left _ hr'', h2⟩
        · exact ⟨row, List.mem_append_right _ (List.mem_singleton.mpr rfl), ((hQ.cov l hl).mp ⟨r, h, h1⟩).1⟩
      · rintro ⟨r, hr', h1⟩
        by_cases hz : ∃ r' ∈ rows.take i, Hold r' l
        · obtain ⟨o, ho, h2⟩ := (hP.cov l hl).mpr hz
          exact ⟨o, List.mem_append_left _ ho, h2⟩
        · have hrow : r = row := by
            rcases List.mem_append.mp hr' with h | h
            · exact absurd ⟨r, h, h1⟩ hz
            · exact List.mem_singleton.mp h
          rw [hrow] at h1
          obtain ⟨o, ho, h2⟩ := (hQ.cov l hl).mpr ⟨h1, fun r' hr'' h3 => hz ⟨r', hr'', h3⟩⟩
          exact ⟨o, List.mem_append_right _ ho, h2⟩
  · rw [hI] at h
    obtain ⟨m, out, L, s2, s3, rfl, rfl, hP⟩ := h
    rw [enumD_length, List.length_map, List.take_of_length_le (Nat.le_refl _)] at hP
    simp
    exact q m out hP
end M
end En
set_option Elab.async false
set_option linter.all false
set_option maxRecDepth 100000
set_option maxHeartbeats 4000000
namespace En
open PySem L2

/-! ### how many letters -/
noncomputable def dec (P : Tx → Prop) : Tx → Bool := fun l => @decide (P l) (Classical.propDecidable _)
theorem dec_iff {P : Tx → Prop} {l : Tx} : dec P l = true ↔ P l := @decide_eq_true_iff _ (Classical.propDecidable _)
noncomputable def cnt (w : Nat) (P : Tx → Prop) : Nat := ((choicesL w).filter (dec P)).length
theorem cnt_congr {w : Nat} {P Q : Tx → Prop} (h : ∀ l, Ltr w l → (P l ↔ Q l)) : cnt w P = cnt w Q := by
  have e : ∀ l ∈ choicesL w, dec P l = dec Q l := fun l hl => by
    rw [Bool.eq_iff_iff, dec_iff, dec_iff]
    exact h l (choices_ltr hl)
  unfold cnt
  rw [List.filter_congr e]
theorem cnt_succ (k : Nat) (P : Tx → Prop) : cnt (k + 1) P = cnt k (fun c => P (c ++ [48])) + cnt k (fun c => P (c ++ [49])) := by
  unfold cnt
  show (((choicesL k).map (fun c => c ++ [48]) ++ (choicesL k).map (fun c => c ++ [49])).filter (dec P)).length = _
  rw [List.filter_append, List.length_append, List.filter_map, List.filter_map, List.length_map, List.length_map]
  rfl
theorem cnt_none (w : Nat) {P : Tx → Prop} (h : ∀ l, Ltr w l → ¬ P l) : cnt w P = 0 := by
  unfold cnt
  rw [List.length_eq_zero_iff, List.filter_eq_nil_iff]
  intro l hl hz
  exact h l (choices_ltr hl) (dec_iff.mp hz)
theorem hold_app {r c : Tx} {x y : Nat} (h : r.length = c.length) : Hold (r ++ [x]) (c ++ [y]) ↔ Hold r c ∧ (x = 45 ∨ x = y) := by
  constructor
  · refine fun z => ⟨fun i a b e1 e2 => ?_, ?_⟩
    · have h1 := (List.getElem?_eq_some_iff.mp e1).1
      have h2 := (List.getElem?_eq_some_iff.mp e2).1
      exact z i a b (by rw [List.getElem?_append_left h1]; exact e1) (by rw [List.getElem?_append_left h2]; exact e2)
    · exact z r.length x y (by simp) (by rw [h]; simp)
  · rintro ⟨z1, z2⟩ i a b e1 e2
    by_cases hi : i < r.length
    · rw [List.getElem?_append_left hi] at e1
      rw [List.getElem?_append_left (by omega)] at e2
      exact z1 i a b e1 e2
    · have h1 := (List.getElem?_eq_some_iff.mp e1).1
      rw [List.length_append, List.length_singleton] at h1
      have : i = r.length := by omega
      subst this
      have ex : (r ++ [x])[r.length]? = some x := by simp
      have ey : (c ++ [y])[r.length]? = some y := by rw [h]; simp
      rw [ex] at e1
      rw [ey] at e2
      cases e1; cases e2
      exact z2
theorem size_cnt : ∀ {w : Nat} {r : Tx}, Row w r → sizeI r = (cnt w (Hold r) : Int)
  | 0, r, h => by
    have : r = [] := List.eq_nil_of_length_eq_zero h.1
    subst this
    have : cnt 0 (Hold []) = 1 := by
      unfold cnt
      show ([[]].filter (dec (Hold []))).length = 1
      rw [List.filter_cons, if_pos (dec_iff.mpr (hold_self []))]
      rfl
    rw [this]
    rfl
  | k + 1, r, h => by
    have hne : r ≠ [] := fun z => by rw [z] at h; cases h.1
    obtain ⟨d, x, rfl⟩ : ∃ d x, r = d ++ [x] := ⟨r.dropLast, r.getLast hne, (List.dropLast_concat_getLast hne).symm⟩
    have hl := h.1
    rw [List.length_append, List.length_singleton] at hl
    have hd : Row k d := ⟨by omega, fun y hy => h.2 y (List.mem_append_left _ hy)⟩
    have hx := h.2 x (List.mem_append_right _ (List.mem_singleton.mpr rfl))
    have ih := size_cnt hd
    rw [cnt_succ]
    have e : ∀ y, cnt k (fun c => Hold (d ++ [x]) (c ++ [y])) = cnt k (fun c => Hold d c ∧ (x = 45 ∨ x = y)) := fun y => cnt_congr fun l hl' => hold_app (by rw [hd.1, hl'.1])
    rw [e, e]
    have yes : ∀ y, (x = 45 ∨ x = y) → cnt k (fun c => Hold d c ∧ (x = 45 ∨ x = y)) = cnt k (Hold d) := fun y hy => cnt_congr fun l _ => ⟨fun z => z.1, fun z => ⟨z, hy⟩⟩
    have no : ∀ y, ¬ (x = 45 ∨ x = y) → cnt k (fun c => Hold d c ∧ (x = 45 ∨ x = y)) = 0 := fun y hy => cnt_none k fun l _ z => hy z.2
    unfold sizeI at ih ⊢
    rw [List.count_append]
    rcases hx with rfl | rfl | rfl
    · rw [yes 48 (.inr rfl), no 49 (by decide)]
      simpa using ih
    · rw [no 48 (by decide), yes 49 (.inr rfl)]
      simpa using ih
    · rw [yes 48 (.inl rfl), yes 49 (.inl rfl)]
      have : List.count 45 [45] = 1 := rfl
      rw [this, Int.pow_succ, ih]
      push_cast
      omega
end En
set_option Elab.async false
set_option linter.all false
set_option maxRecDepth 100000
set_option maxHeartbeats 4000000
namespace En
open PySem L2

theorem filter_or {P Q R : Tx → Bool} : ∀ {l : List Tx}, (∀ a ∈ l, R a = (P a || Q a) ∧ ¬ (P a = true ∧ Q a = true)) → (l.filter R).length = (l.filter P).length + (l.filter Q).length
  | [], _ => rfl
  | a :: l, h => by
    have ih := filter_or fun b hb => h b (List.mem_cons_of_mem _ hb)
    obtain ⟨h1, h2⟩ := h a List.mem_cons_self
    rw [List.filter_cons, List.filter_cons, List.filter_cons, h1]
    cases hp : P a <;> cases hq : Q a
    · simpa using ih
    · simp
      omega
    · simp
      omega
    · exact absurd ⟨hp, hq⟩ h2
theorem cnt_or {w : Nat} {P Q : Tx → Prop} (h : ∀ l, Ltr w l → ¬ (P l ∧ Q l)) : cnt w (fun l => P l ∨ Q l) = cnt w P + cnt w Q := by
  unfold cnt
  refine filter_or fun l hl => ⟨?_, fun z => h l (choices_ltr hl) ⟨dec_iff.mp z.1, dec_iff.mp z.2⟩⟩
  rw [Bool.eq_iff_iff, dec_iff, Bool.or_eq_true, dec_iff, dec_iff]
/-- the sizes of rows apart are the count of their letters -/
theorem sum_cnt {w : Nat} : ∀ {rs : List Tx}, (∀ r ∈ rs, Row w r) → rs.Pairwise (fun a b => Cl b a) → (rs.map sizeI).sum = (cnt w (fun l => ∃ r ∈ rs, Hold r l) : Int)
  | [], _, _ => by
    rw [cnt_none w (fun l _ ⟨r, hr, _⟩ => nomatch hr)]
    rfl
  | r :: rs, hr, ha => by
    have hp := List.pairwise_cons.mp ha
    have ih := sum_cnt (fun a h => hr a (List.mem_cons_of_mem _ h)) hp.2
    have e : cnt w (fun l => ∃ a ∈ r :: rs, Hold a l) = cnt w (fun l => Hold r l ∨ ∃ a ∈ rs, Hold a l) := cnt_congr fun l _ => by simp
    rw [e, cnt_or, List.map_cons, List.sum_cons, ih, size_cnt (hr r List.mem_cons_self)]
    · omega
    · rintro l hl ⟨h1, a, ham, h2⟩
      exact cl_no (hr a (List.mem_cons_of_mem _ ham)) (hr r List.mem_cons_self) hl (hp.1 a ham) h2 h1
end En
set_option Elab.async false
set_option linter.all false
set_option maxRecDepth 100000
set_option maxHeartbeats 4000000
namespace En
open PySem L2

/-! ### signs written at places -/
def atS (ps : List Nat) (l : Tx) : Tx := ps.map fun p => l.getD p 45
theorem spread_cons (x : Nat) (s : Tx) (p : Nat) (ps : List Nat) (b : Tx) : spreadL (x :: s) (p :: ps) b = spreadL s ps (b.set p x) := rfl
theorem spread_len : ∀ {ps : List Nat} {s b : Tx}, (spreadL s ps b).length = b.length
  | [], s, b => by unfold spreadL; rw [List.zip_nil_right]; rfl
  | p :: ps, [], b => rfl
  | p :: ps, x :: s, b => by rw [spread_cons, spread_len, List.length_set]
theorem spread_other : ∀ {ps : List Nat} {s b : Tx} {q : Nat}, q ∉ ps → (spreadL s ps b)[q]? = b[q]?
  | [], s, b, q, _ => by unfold spreadL; rw [List.zip_nil_right]; rfl
  | p :: ps, [], b, q, _ => rfl
  | p :: ps, x :: s, b, q, h => by
    rw [spread_cons, spread_other fun z => h (List.mem_cons_of_mem _ z), List.getElem?_set_ne (show p ≠ q from fun z => h (by rw [z]; exact List.mem_cons_self))]
theorem spread_get : ∀ {ps : List Nat} {s b : Tx} {i p x : Nat}, ps.Nodup → (∀ p ∈ ps, p < b.length) → ps[i]? = some p → s[i]? = some x → (spreadL s ps b)[p]? = some x
  | [], s, b, i, p, x, _, _, h, _ => by cases h
  | q :: ps, [], b, i, p, x, _, _, _, h => by cases h
  | q :: ps, y :: s, b, 0, p, x, hn, hb, h1, h2 => by
    rw [spread_cons]
    cases h1; cases h2
    rw [spread_other (List.nodup_cons.mp hn).1, List.getElem?_set_self (hb q List.mem_cons_self)]
  | q :: ps, y :: s, b, i + 1, p, x, hn, hb, h1, h2 => by
    rw [spread_cons]
    exact spread_get (List.nodup_cons.mp hn).2 (fun p hp => by rw [List.length_set]; exact hb p (List.mem_cons_of_mem _ hp)) (by simpa using h1) (by simpa using h2)
theorem atS_len (ps : List Nat) (l : Tx) : (atS ps l).length = ps.length := List.length_map _
theorem atS_get {ps : List Nat} {l : Tx} {i p : Nat} (h : ps[i]? = some p) : (atS ps l)[i]? = some (l.getD p 45) := by
  unfold atS
  rw [List.getElem?_map, h]
  rfl
theorem getD_of {l : Tx} {p x : Nat} (h : l[p]? = some x) : l.getD p 45 = x := by rw [List.getD_eq_getElem?_getD, h]; rfl
theorem atS_ltr {w : Nat} {ps : List Nat} {l : Tx} (hp : ∀ p ∈ ps, p < w) (h : Ltr w l) : Ltr ps.length (atS ps l) := by
  refine ⟨atS_len _ _, fun c hc => ?_⟩
  obtain ⟨p, hp', rfl⟩ := List.mem_map.mp hc
  have hi : p < l.length := by rw [h.1]; exact hp p hp'
  rw [getD_of (List.getElem?_eq_getElem hi)]
  exact h.2 _ (List.getElem_mem hi)
theorem spread_row {w : Nat} {ps : List Nat} {s b : Tx} (hn : ps.Nodup) (hp : ∀ p ∈ ps, p < w) (hs : Row ps.length s) (hb : Row w b) : Row w (spreadL s ps b) := by
  refine ⟨by rw [spread_len]; exact hb.1, fun c hc => ?_⟩
  obtain ⟨q, hq, rfl⟩ := List.getElem_of_mem hc
  have e := List.getElem?_eq_getElem hq
  by_cases hm : q ∈ ps
  · obtain ⟨i, hi, ei⟩ := List.getElem_of_mem hm
    have hs' := List.getElem?_eq_getElem (l := s) (i := i) (by rw [hs.1]; exact hi)
    have := spread_get (b := b) hn (fun p h => by rw [hb.1]; exact hp p h) (by rw [List.getElem?_eq_getElem hi, ei]) hs'
    rw [this] at e
    rw [← Option.some.inj e]
    exact hs.2 _ (List.getElem_mem _)
  · rw [spread_other hm] at e
    exact hb.2 _ (List.mem_of_getElem? e)
theorem spread_ltr {w : Nat} {ps : List Nat} {s b : Tx} (hn : ps.Nodup) (hp : ∀ p ∈ ps, p < w) (hs : Ltr ps.length s) (hb : Ltr w b) : Ltr w (spreadL s ps b) := by
  refine ⟨by rw [spread_len]; exact hb.1, fun c hc => ?_⟩
  obtain ⟨q, hq, rfl⟩ := List.getElem_of_mem hc
  have e := List.getElem?_eq_getElem hq
  by_cases hm : q ∈ ps
  · obtain ⟨i, hi, ei⟩ := List.getElem_of_mem hm
    have hs' := List.getElem?_eq_getElem (l := s) (i := i) (by rw [hs.1]; exact hi)
    have := spread_get (b := b) hn (fun p h => by rw [hb.1]; exact hp p h) (by rw [List.getElem?_eq_getElem hi, ei]) hs'
    rw [this] at e
    rw [← Option.some.inj e]
    exact hs.2 _ (List.getElem_mem _)
  · rw [spread_other hm] at e
    exact hb.2 _ (List.mem_of_getElem? e)
theorem atS_spread {w : Nat} {ps : List Nat} {s b : Tx} (hn : ps.Nodup) (hp : ∀ p ∈ ps, p < w) (hs : s.length = ps.length) (hb : b.length = w) : atS ps (spreadL s ps b) = s := by
  apply List.ext_getElem?
  intro i
  by_cases hi : i < ps.length
  · have e := List.getElem?_eq_getElem hi
    have e2 := List.getElem?_eq_getElem (l := s) (i := i) (by omega)
    rw [atS_get e, e2, getD_of (spread_get hn (fun p h => by rw [hb]; exact hp p h) e e2)]
  · rw [List.getElem?_eq_none (by rw [atS_len]; omega), List.getElem?_eq_none (by omega)]
theorem spread_tell {w : Nat} {ps : List Nat} {s : Tx} (i x : Nat) (h : (spreadL s ps (List.replicate w 45))[i]? = some x) (n : x ≠ 45) : i ∈ ps := by
  refine Classical.byContradiction fun hm => ?_
  rw [spread_other hm] at h
  exact n (List.eq_of_mem_replicate (List.mem_of_getElem? h))
theorem dash_row (w : Nat) : Row w (List.replicate w 45) := ⟨List.length_replicate, fun c hc => .inr (.inr (List.eq_of_mem_replicate hc))⟩
theorem hold_spread {w : Nat} {ps : List Nat} {s l : Tx} (hn : ps.Nodup) (hp : ∀ p ∈ ps, p < w) (hs : s.length = ps.length) (hl : Ltr w l) : Hold (spreadL s ps (List.replicate w 45)) l ↔ ¬ Cl s (atS ps l) := by
  have hb : ∀ p ∈ ps, p < (List.replicate w 45).length := fun p h => by rw [List.length_replicate]; exact hp p h
  constructor
  · rintro h ⟨i, x, y, e1, e2, n1, n2, n3⟩
    have hi := (List.getElem?_eq_some_iff.mp e1).1
    have ei := List.getElem?_eq_getElem (l := ps) (i := i) (by omega)
    have g := spread_get hn hb ei e1
    rw [atS_get ei] at e2
    have hlt : ps[i] < l.length := by rw [hl.1]; exact hp _ (List.getElem_mem _)
    have el := List.getElem?_eq_getElem hlt
    rw [getD_of el] at e2
    rw [Option.some.inj e2] at el
    rcases h _ _ _ g el with z | z
    · exact n1 z
    · exact n3 z
  · intro h j a b e1 e2
    by_cases hm : j ∈ ps
    · obtain ⟨i, hi, ei⟩ := List.getElem_of_mem hm
      have ei' : ps[i]? = some j := by rw [List.getElem?_eq_getElem hi, ei]
      have es := List.getElem?_eq_getElem (l := s) (i := i) (by omega)
      rw [spread_get hn hb ei' es] at e1
      rw [← Option.some.inj e1]
      have hbt := hl.2 b (List.mem_of_getElem? e2)
      by_cases h1 : s[i] = 45
      · exact .inl h1
      · by_cases h2 : s[i] = b
        · exact .inr h2
        · refine absurd ⟨i, s[i], b, es, ?_, h1, by rcases hbt with z | z <;> omega, h2⟩ h
          rw [atS_get ei', getD_of e2]
    · rw [spread_other hm] at e1
      exact .inl (List.eq_of_mem_replicate (List.mem_of_getElem? e1))
theorem count_spread : ∀ {ps : List Nat} {s b : Tx}, ps.Nodup → s.length = ps.length → (∀ x ∈ s, x ≠ 45) → (∀ p ∈ ps, b[p]? = some 45) → (spreadL s ps b).count 45 + ps.length = b.count 45
  | [], s, b, _, _, _, _ => by unfold spreadL; rw [List.zip_nil_right]; rfl
  | p :: ps, [], b, _, h, _, _ => by cases h
  | p :: ps, x :: s, b, hn, hs, hx, hb => by
    have hn' := List.nodup_cons.mp hn
    obtain ⟨hi, e⟩ := List.getElem?_eq_some_iff.mp (hb p List.mem_cons_self)
    have ih := count_spread (ps := ps) (s := s) (b := b.set p x) hn'.2 (by simpa using hs) (fun y h => hx y (List.mem_cons_of_mem _ h)) fun q hq => by
      rw [List.getElem?_set_ne (show p ≠ q from fun z => hn'.1 (by rw [z]; exact hq))]
      exact hb q (List.mem_cons_of_mem _ hq)
    have h1 : 0 < b.count 45 := List.count_pos_iff.mpr (by rw [← e]; exact List.getElem_mem hi)
    have h2 : (b.set p x).count 45 = b.count 45 - 1 := by
      rw [List.count_set hi, e]
      simp [hx x List.mem_cons_self]
    rw [spread_cons, List.length_cons]
    omega
theorem size_spread {w : Nat} {ps : List Nat} {s : Tx} (hn : ps.Nodup) (hp : ∀ p ∈ ps, p < w) (hs : Ltr ps.length s) : sizeI (spreadL s ps (List.replicate w 45)) = 2 ^ (w - ps.length) := by
  have := count_spread (b := List.replicate w 45) hn hs.1 (fun x h => by rcases hs.2 x h with z | z <;> omega) fun p h => by
    rw [List.getElem?_eq_getElem (by rw [List.length_replicate]; exact hp p h), List.getElem_replicate]
  rw [List.count_replicate_self] at this
  unfold sizeI
  congr 1
  omega
theorem choices_nodup : ∀ k, (choicesL k).Nodup
  | 0 => List.nodup_cons.mpr ⟨by simp, List.nodup_nil⟩
  | k + 1 => by
    have ih := choices_nodup k
    refine List.pairwise_append.mpr ⟨?_, ?_, ?_⟩
    · exact List.pairwise_map.mpr (ih.imp fun h z => h (List.append_cancel_right z))
    · exact List.pairwise_map.mpr (ih.imp fun h z => h (List.append_cancel_right z))
    · intro a ha b hb z
      obtain ⟨c, _, rfl⟩ := List.mem_map.mp ha
      obtain ⟨d, _, rfl⟩ := List.mem_map.mp hb
      have := congrArg List.getLast? z
      simp at this
theorem ltr_ne {k : Nat} {a b : Tx} (ha : Ltr k a) (hb : Ltr k b) (h : a ≠ b) : Cl b a := by
  refine Classical.byContradiction fun hn => h ?_
  apply List.ext_getElem?
  intro i
  by_cases hi : i < k
  · have e1 := List.getElem?_eq_getElem (l := a) (i := i) (by rw [ha.1]; exact hi)
    have e2 := List.getElem?_eq_getElem (l := b) (i := i) (by rw [hb.1]; exact hi)
    have b1 := ha.2 _ (List.mem_of_getElem? e1)
    have b2 := hb.2 _ (List.mem_of_getElem? e2)
    by_cases hz : b[i]'(by rw [hb.1]; exact hi) = a[i]'(by rw [ha.1]; exact hi)
    · rw [e1, e2, hz]
    · exact absurd ⟨i, _, _, e2, e1, by rcases b2 with z | z <;> omega, by rcases b1 with z | z <;> omega, hz⟩ hn
  · rw [List.getElem?_eq_none (by rw [ha.1]; omega), List.getElem?_eq_none (by rw [hb.1]; omega)]
theorem cl_spread {w : Nat} {ps : List Nat} {a b : Tx} (hn : ps.Nodup) (hp : ∀ p ∈ ps, p < w) (ha : a.length = ps.length) (h : Cl a b) : Cl (spreadL a ps (List.replicate w 45)) (spreadL b ps (List.replicate w 45)) := by
  obtain ⟨i, x, y, e1, e2, n⟩ := h
  have hi := (List.getElem?_eq_some_iff.mp e1).1
  have hb : ∀ p ∈ ps, p < (List.replicate w 45).length := fun p h => by rw [List.length_replicate]; exact hp p h
  have ei := List.getElem?_eq_getElem (l := ps) (i := i) (by omega)
  exact ⟨_, x, y, spread_get hn hb ei e1, spread_get hn hb ei e2, n⟩
/-- how many letters have a choice of G at the places -/
theorem cnt_spread {w : Nat} {ps : List Nat} {G : List Tx} (hn : ps.Nodup) (hp : ∀ p ∈ ps, p < w) (hG : G.Nodup) (hl : ∀ c ∈ G, Ltr ps.length c) : (cnt w (fun l => atS ps l ∈ G) : Int) = G.length * 2 ^ (w - ps.length) := by
  have e : cnt w (fun l => atS ps l ∈ G) = cnt w (fun l => ∃ r ∈ G.map (fun c => spreadL c ps (List.replicate w 45)), Hold r l) := cnt_congr fun l h => by
    constructor
    · intro hm
      refine ⟨_, List.mem_map_of_mem hm, (hold_spread hn hp (atS_len _ _) h).mpr ?_⟩
      rintro ⟨i, x, y, e1, e2, n⟩
      rw [e1] at e2
      exact n.2.2 (Option.some.inj e2)
    · rintro ⟨r, hr, hh⟩
      obtain ⟨c, hc, rfl⟩ := List.mem_map.mp hr
      have := (hold_spread hn hp (hl c hc).1 h).mp hh
      have ee : c = atS ps l := Classical.byContradiction fun z => this (ltr_ne (atS_ltr hp h) (hl c hc) fun y => z y.symm)
      rw [← ee]
      exact hc
  rw [e, ← sum_cnt, List.map_map]
  · have : ∀ (L : List Tx), (∀ c ∈ L, Ltr ps.length c) → (L.map (sizeI ∘ fun c => spreadL c ps (List.replicate w 45))).sum = L.length * 2 ^ (w - ps.length) := fun L => by
      induction L with
      | nil => intro _; simp
      | cons a L ih =>
        intro h
        rw [List.map_cons, List.sum_cons, ih fun c hc => h c (List.mem_cons_of_mem _ hc), List.length_cons]
        show sizeI (spreadL a ps (List.replicate w 45)) + _ = _
        rw [size_spread hn hp (h a List.mem_cons_self)]
        push_cast
        rw [Int.add_mul]
        omega
    exact this G hl
  · intro r hr
    obtain ⟨c, hc, rfl⟩ := List.mem_map.mp hr
    exact spread_row hn hp (hl c hc).row (dash_row w)
  · refine List.pairwise_map.mpr ?_
    refine List.Pairwise.imp_of_mem ?_ hG
    intro a b ha hb hab
    exact cl_spread hn hp (hl b hb).1 (ltr_ne (hl a ha) (hl b hb) hab)
/-- what a heap's rows apart are due -/
structure Just (w : Nat) (ps : List Nat) (G : List Tx) (out : List Tx) : Prop where
  row : ∀ r ∈ out, Row w r
  bad : ∀ r ∈ out, ∀ c, Ltr ps.length c → c ∉ G → Cl (atS ps r) c
  apart : out.Pairwise fun a b => Cl b a
  few : out.length ≤ 2 ^ ps.length
  sum : (out.map sizeI).sum = G.length * 2 ^ (w - ps.length)
  ltr : ∀ c ∈ G, Ltr ps.length c
theorem good_in {m : Nat} {ss : List Tx} {c : Tx} (h : Ltr m c) : c ∈ (choicesL m).filter (fitsAny ss) ↔ ∃ s ∈ ss, ¬ Cl s c := by
  rw [List.mem_filter, fitsAny_iff]
  exact ⟨fun z => z.2, fun z => ⟨choices_all h, z⟩⟩
/-- a letter lies in the heap just where its signs at the places are good -/
theorem heap_in {w : Nat} {ps : List Nat} {ss : List Tx} {l : Tx} (hn : ps.Nodup) (hp : ∀ p ∈ ps, p < w) (hs : ∀ s ∈ ss, Row ps.length s) (hl : Ltr w l) : (∃ r ∈ ss.map (fun s => spreadL s ps (List.replicate w 45)), Hold r l) ↔ ∃ s ∈ ss, ¬ Cl s (atS ps l) := by
  constructor
  · rintro ⟨r, hr, h⟩
    obtain ⟨s, hs', rfl⟩ := List.mem_map.mp hr
    exact ⟨s, hs', (hold_spread hn hp (hs s hs').1 hl).mp h⟩
  · rintro ⟨s, hs', h⟩
    exact ⟨_, List.mem_map_of_mem hs', (hold_spread hn hp (hs s hs').1 hl).mpr h⟩
theorem Pcs.just {w : Nat} {ps : List Nat} {G out : List Tx} {S : Tx → Prop} (hn : ps.Nodup) (hp : ∀ p ∈ ps, p < w) (hG : G.Nodup) (hGl : ∀ c ∈ G, Ltr ps.length c) (P : Pcs w ps S out) (hS : ∀ l, Ltr w l → (S l ↔ atS ps l ∈ G)) : Just w ps G out := by
  refine ⟨P.row, fun r hr c hc hcn => Classical.byContradiction fun hcl => hcn ?_, P.apart, P.few, ?_, hGl⟩
  · have zl : Ltr w (List.replicate w 48) := ⟨List.length_replicate, fun x hx => .inl (List.eq_of_mem_replicate hx)⟩
    have hl := spread_ltr hn hp hc zl
    have ha := atS_spread (b := List.replicate w 48) hn hp hc.1 zl.1
    have hh : Hold r (spreadL c ps (List.replicate w 48)) := fun j a b e1 e2 => by
      by_cases h1 : a = 45
      · exact .inl h1
      · have hm := P.tell r hr j a e1 h1
        obtain ⟨i, hi, ei⟩ := List.getElem_of_mem hm
        have ei' : ps[i]? = some j := by rw [List.getElem?_eq_getElem hi, ei]
        have ec := List.getElem?_eq_getElem (l := c) (i := i) (by rw [hc.1]; exact hi)
        have := spread_get (b := List.replicate w 48) hn (fun p h => by rw [zl.1]; exact hp p h) ei' ec
        rw [this] at e2
        have eb := Option.some.inj e2
        have hb := hc.2 _ (List.mem_of_getElem? ec)
        by_cases h2 : a = b
        · exact .inr h2
        · exact absurd ⟨i, a, _, by rw [atS_get ei', getD_of e1], ec, h1, by rcases hb with z | z <;> omega, fun z => h2 (z.trans eb)⟩ hcl
    have := (hS _ hl).mp ((P.cov _ hl).mp ⟨r, hr, hh⟩)
    rw [ha] at this
    exact this
  · rw [sum_cnt P.row P.apart, ← cnt_spread hn hp hG hGl]
    congr 1
    exact cnt_congr fun l hl => (P.cov l hl).trans (hS l hl)
end En
set_option Elab.async false
set_option linter.all false
set_option maxRecDepth 100000
set_option maxHeartbeats 4000000
namespace En
open PySem L2

theorem eqv_tx (a b : Tx) : PyData.eqv (tx a) (tx b) = decide (a = b) := by
  rw [Bool.eq_iff_iff, decide_eq_true_iff, ← tx_inj]
  simp [tx, PyData.eqv]
theorem in_txs (c : Tx) (L : List Tx) : inO (tx c) (.list (L.map tx)) = some (decide (c ∈ L)) := by
  have e : (sc (tx c) && (L.map tx).all sc) = true := by simp [sc, tx]
  show (if (sc (tx c) && (L.map tx).all sc) = true then some ((L.map tx).any fun y => PyData.eqv y (tx c)) else _) = _
  rw [if_pos e]
  congr 1
  rw [List.any_map, Bool.eq_iff_iff]
  simp [eqv_tx]
theorem eqvAll_txs : ∀ (A B : List Tx), PyData.eqvAll (A.map tx) (B.map tx) = decide (A = B)
  | [], [] => by simp [PyData.eqvAll]
  | [], b :: B => by simp [PyData.eqvAll]
  | a :: A, [] => by simp [PyData.eqvAll]
  | a :: A, b :: B => by simp [PyData.eqvAll, eqv_tx, eqvAll_txs A B]
theorem eq_txs {w : Nat} {A B : List Tx} (hA : ∀ r ∈ A, Row w r) (hB : ∀ r ∈ B, Row w r) : eqO (.list (A.map tx)) (.list (B.map tx)) = some (decide (A = B)) := by
  have fl : ∀ {L : List Tx}, (∀ r ∈ L, Row w r) → shp (.list (L.map tx)) = true := fun h => shp_list fun d hd => by
    obtain ⟨r, hr, rfl⟩ := List.mem_map.mp hd
    exact flat_row (h r hr)
  have e : (shp (.list (A.map tx)) && shp (.list (B.map tx))) = true := by rw [fl hA, fl hB]; rfl
  show (if (shp (.list (A.map tx)) && shp (.list (B.map tx))) = true then some (PyData.eqv (.list (A.map tx)) (.list (B.map tx))) else none) = _
  rw [if_pos e]
  congr 1
  simp [PyData.eqv, eqvAll_txs]
theorem dashes {n : Nat} (h : n ≤ 1000) : semBin .Mult (tx [45]) (.int (n : Int)) = some (false, tx (List.replicate n 45)) := by
  rw [mul_tx (sz _ (by simp; omega)) (by omega)]
  congr 3
  induction n with
  | zero => rfl
  | succ n ih => rw [List.replicate_succ, List.replicate_succ, List.flatten_cons, ih (by omega)]; rfl
theorem bad_nil {w : Nat} {G : List Tx} (L : List Tx) (hL : ∀ r ∈ L, Row w r) : eqO (.list (L.map tx)) (.list []) = some (decide (L = [])) := by
  rw [eq_nil fun d hd => by obtain ⟨r, hr, rfl⟩ := List.mem_map.mp hd; exact flat_row (hL r hr)]
  simp
namespace M
def IsRowAt (Γ : FT) : Prop := ∃ Γ' n, Γ "_law_is_row" = some (2, fun ds => runF Γ' n isRow ds)
def ApartAt (Γ : FT) : Prop := ∃ Γ' n, FitsAt Γ' ∧ Γ "_law_apart" = some (1, fun ds => runF Γ' n apart ds)
def just : MF := ⟨10, (.cons (.ife (.bop false (.cons (.not_ (.isi (.v 0) "list")) (.cons (.cmp .NotEq (.lc (.n 5) (.e (.v 0)) (.so (.not_ (.call "_law_is_row" (.cons (.v 5) (.cons (.v 1) .nil))))) (.v 5)) (.lst .nil)) .nil))) (.cons (.ret (.kb false)) .nil) .nil) (.cons (.set 4 (.lc (.n 8) (.e (.call "_law_choices" (.cons (.bi "len" (.cons (.v 2) .nil)) .nil))) (.so (.cmp .NotIn (.v 8) (.v 3))) (.v 8)) false) (.cons (.for_ (.n 5) (.e (.v 0)) (.cons (.set 6 (.mt (.ks "") "join" (.cons (.lc (.n 9) (.e (.v 2)) .no (.ix (.v 5) (.v 9))) .nil)) false) (.cons (.ife (.cmp .NotEq (.lc (.n 8) (.e (.v 4)) (.so (.call "_law_fits" (.cons (.v 6) (.cons (.v 8) .nil)))) (.v 8)) (.lst .nil)) (.cons (.ret (.kb false)) .nil) .nil) .nil))) (.cons (.set 7 (.call "_law_size" (.cons (.bin .Mult (.ks "-") (.bin .Sub (.v 1) (.bi "len" (.cons (.v 2) .nil)))) .nil)) false) (.cons (.ret (.bop true (.cons (.call "_law_apart" (.cons (.v 0) .nil)) (.cons (.cmp .Eq (.bi "sum" (.cons (.lc (.n 5) (.e (.v 0)) .no (.call "_law_size" (.cons (.v 5) .nil))) .nil)) (.bin .Mult (.bi "len" (.cons (.v 3) .nil)) (.v 7))) .nil)))) .nil)))))⟩
theorem just_ok {Γ : FT} {n : Nat} {X : Str → Prop} {K : Rv → Prop} (hr : IsRowAt Γ) (hc : ChoicesAt Γ) (hf : FitsAt Γ) (hs : SizeAt Γ) (ha : ApartAt Γ) {w : Nat} {ps : List Nat} {G out : List Tx} (hw : w ≤ 900) (hps : ps.length ≤ 8) (hpw : ∀ p ∈ ps, p < w) (hpl : ps.length ≤ w) (hGl : G.length ≤ 1000) (J : Just w ps G out) (q : K (.fr false (.bool true))) : RS X (runF Γ n just [.list (out.map tx), .int (w : Int), .list (ps.map fun (p : Nat) => .int (p : Int)), .list (G.map tx)]) K := by
  obtain ⟨Γ1, n1, e1⟩ := hr
  obtain ⟨Γ2, n2, e2⟩ := hc
  obtain ⟨Γ3, n3, e3⟩ := hf
  obtain ⟨Γ4, n4, e4⟩ := hs
  obtain ⟨Γ5, n5, ha', e5⟩ := ha
  have p8 : 2 ^ ps.length ≤ 2 ^ 8 := Nat.pow_le_pow_right (by decide) hps
  have fo := J.few
  refine rs_run ?_
  simp [just, startE]
  refine rs_lc (fun i m L => m = false ∧ L = []) ⟨rfl, rfl⟩ (fun i d m L hd' h => ?_) (fun m L h => ?_)
  · obtain ⟨rfl, rfl⟩ := h
    obtain ⟨hi, rfl⟩ := map_at hd'
    have hrow := J.row _ (List.getElem_mem hi)
    simp [lcT, e_call e1]
    refine isRow_ok (Γ := Γ1) _ hrow (by omega) ?_
    simp
  · obtain ⟨rfl, rfl⟩ := h
    rw [eq_nil (l := []) (by simp)]
    refine ⟨sz _ (by omega), ?_⟩
    simp [e_call e2]
    refine choices_ok (Γ := Γ2) ps.length hps ?_
    simp
    refine rs_lc (fun i m L => m = false ∧ ∃ bl : List Tx, L = bl.map tx ∧ bl.length ≤ i ∧ ∀ c ∈ bl, Ltr ps.length c ∧ c ∉ G) ⟨rfl, [], rfl, by simp, by simp⟩ (fun i d m L hd' h => ?_) (fun m L h => ?_)
    · obtain ⟨rfl, bl, rfl, hbi, hbl⟩ := h
      obtain ⟨hi, rfl⟩ := map_at hd'
      have hcl := choices_ltr (List.getElem_mem hi)
      generalize (choicesL ps.length)[i] = c at *
      simp [lcT, in_txs]
      by_cases hm : c ∈ G
      · simp [hm]
        exact ⟨bl, rfl, by omega, hbl⟩
      · simp [hm]
        refine ⟨bl ++ [c], by simp, by simp; omega, fun d hd => ?_⟩
        rcases List.mem_append.mp hd with hd | hd
        · exact hbl d hd
        · rw [List.mem_singleton.mp hd]; exact ⟨hcl, hm⟩
    · obtain ⟨rfl, bl, rfl, hbi, hbl⟩ := h
      rw [List.length_map, choices_len] at hbi
      refine ⟨sz _ (by rw [choices_len]; omega), ?_⟩
      simp
      obtain ⟨I, hI⟩ : ∃ I : Nat → List Sl → Prop, ∀ i e, I i e = ∃ (s5 s6 : Sl), e = [.fr true (.list (out.map tx)), .fr false (.int (w : Int)), .fr true (.list (ps.map fun (p : Nat) => .int (p : Int))), .fr true (.list (G.map tx)), .fr false (.list (bl.map tx)), s5, s6, .no, .no, .no] := ⟨_, fun _ _ => rfl⟩
      refine fs_for I ?_ (fun i d e hd h => ?_) (fun e h => ?_)
      · rw [hI]
        exact ⟨_, _, rfl⟩
      · rw [hI] at h
        obtain ⟨s5, s6, rfl⟩ := h
        obtain ⟨hi, rfl⟩ := map_at hd
        have hmem := List.getElem_mem hi
        have hrow := J.row _ hmem
        have hbad := J.bad _ hmem
        generalize out[i] = r at *
        have hrl := hrow.1
        have hrl' : r.length ≤ sizeLine := sz _ (by omega)
        simp
        refine rs_lc (fun i m L => m = false ∧ L = ((atS ps r).take i).map fun c => tx [c]) ⟨rfl, rfl⟩ (fun j d m L hd' h => ?_) (fun m L h => ?_)
        · obtain ⟨rfl, rfl⟩ := h
          obtain ⟨hj, rfl⟩ := map_at hd'
          have hlt : ps[j] < r.length := by rw [hrl]; exact hpw _ (List.getElem_mem hj)
          have er := List.getElem?_eq_getElem hlt
          have g1 := ix_tx hrl' er
          have g := take_get (atS_get (l := r) (List.getElem?_eq_getElem hj))
          rw [getD_of er] at g
          simp [lcT, g1]
          rw [← List.map_take, ← List.map_take, g, List.map_append]
          rfl
        · obtain ⟨rfl, rfl⟩ := h
          rw [List.length_map, List.take_of_length_le (by rw [atS_len]; exact Nat.le_refl _)]
          refine ⟨sz _ (by omega), ?_⟩
          simp [join_sg (l := atS ps r) (by rw [atS_len]; omega)]
          refine rs_lc (fun i m L => m = false ∧ L = []) ⟨rfl, rfl⟩ (fun j d m L hd' h => ?_) (fun m L h => ?_)
          · obtain ⟨rfl, rfl⟩ := h
            obtain ⟨hj, rfl⟩ := map_at hd'
            obtain ⟨b1, b2⟩ := hbl _ (List.getElem_mem hj)
            simp [lcT, e_call e3]
            refine fits_ok (Γ := Γ3) _ _ fun t ht => ?_
            have : t = false := by
              cases t with
              | false => rfl
              | true => exact absurd (hbad _ b1 b2) (ht.mp rfl)
            subst this
            simp
          · obtain ⟨rfl, rfl⟩ := h
            rw [eq_nil (l := []) (by simp)]
            refine ⟨sz _ (by omega), ?_⟩
            simp
            rw [hI]
            exact ⟨_, _, rfl⟩
      · rw [hI] at h
        obtain ⟨s5, s6, rfl⟩ := h
        have esub : ((w : Int) - (ps.length : Int)) = ((w - ps.length : Nat) : Int) := by omega
        simp [e_call e4, esub, dashes (n := w - ps.length) (by omega)]
        refine size_ok (Γ := Γ4) _ (by rw [List.length_replicate]; omega) ?_
        simp [e_call e5]
        refine apart_ok (Γ := Γ5) ha' out (by omega) J.apart ?_
        simp
        refine rs_lc (fun i m L => m = false ∧ L = ((out.map sizeI).take i).map .int) ⟨rfl, rfl⟩ (fun i d m L hd' h => ?_) (fun m L h => ?_)
        · obtain ⟨rfl, rfl⟩ := h
          obtain ⟨hi, rfl⟩ := map_at hd'
          have m1 := (J.row out[i] (List.getElem_mem hi)).1
          simp [lcT, e_call e4]
          refine size_ok (Γ := Γ4) out[i] (by omega) ?_
          simp
          rw [take_get (l := out.map (PyData.int ∘ sizeI)) (a := .int (sizeI out[i])) (by rw [List.getElem?_map, List.getElem?_eq_getElem hi]; rfl)]
        · obtain ⟨rfl, rfl⟩ := h
          have e : (out.map sizeI).take (out.map tx).length = out.map sizeI := List.take_of_length_le (by simp)
          rw [e, sum_ints]
          simp
          refine ⟨sz _ (by omega), ?_⟩
          have es : sizeI (List.replicate (w - ps.length) 45) = 2 ^ (w - ps.length) := by unfold sizeI; rw [List.count_replicate_self]
          rw [mul_l (by omega)]
          simp
          have : (out.map sizeI).sum = (G.length : Int) * sizeI (List.replicate (w - ps.length) 45) := by rw [J.sum, es]
          simpa [this] using q
end M
end En
set_option Elab.async false
set_option linter.all false
set_option maxRecDepth 100000
set_option maxHeartbeats 4000000
namespace En
open PySem L2

theorem ans_imms {b m : Bool} {ds : List D} (h : imms ds = true) : ans b (.ow m (.list ds)) = .ok (.ow false (.list ds)) := by
  cases b <;> cases m <;> simp [ans, h]
@[simp] theorem ans_txs (b m : Bool) (l : List Tx) : ans b (.ow m (.list (l.map tx))) = .ok (.ow false (.list (l.map tx))) := ans_imms (imms_tx l)
@[simp] theorem ans_nats (b m : Bool) (l : List Nat) : ans b (.ow m (.list (l.map fun (p : Nat) => PyData.int (p : Int)))) = .ok (.ow false (.list (l.map fun (p : Nat) => PyData.int (p : Int)))) := ans_imms (by induction l with | nil => simp | cons a l ih => simp [ih])
@[simp] theorem ans_ints (b m : Bool) (l : List Int) : ans b (.ow m (.list (l.map PyData.int))) = .ok (.ow false (.list (l.map PyData.int))) := ans_imms (by induction l with | nil => simp | cons a l ih => simp [ih])
theorem sem_list (ds : List D) : semBi "list" ds = s_list ds := by
  unfold semBi
  rw [if_neg (by decide), if_pos rfl]
@[simp] theorem bi_list_l (l : List D) : semBi "list" [.list l] = some (true, .list l) := sem_list _
@[simp] theorem bi_list_t (l : List D) : semBi "list" [.tuple l] = some (true, .list l) := sem_list _
theorem cut_map {α β : Type} (f : α → β) (l : List α) (a b : Option Int) : cutL (l.map f) a b = (cutL l a b).map f := by
  unfold cutL
  rw [List.length_map, List.map_take, List.map_drop]
theorem cut_le {α : Type} (l : List α) (a b : Option Int) : (cutL l a b).length ≤ l.length := by
  unfold cutL
  rw [List.length_take, List.length_drop]
  omega
theorem sp_row {w : Nat} {ps : List Nat} (pn : ps.Nodup) (pw : ∀ p ∈ ps, p < w) {ss : List Tx} (hs : ∀ s ∈ ss, Row ps.length s) : ∀ r ∈ ss.map (fun s => spreadL s ps (List.replicate w 45)), Row w r := fun r hr => by
  obtain ⟨s, hs', rfl⟩ := List.mem_map.mp hr
  exact spread_row pn pw (hs s hs') (dash_row w)
theorem nodup_lt {ps : List Nat} {w : Nat} (pn : ps.Nodup) (pw : ∀ p ∈ ps, p < w) : ps.length ≤ w := by
  have := nodup_le pn (m := List.range w) fun p hp => List.mem_range.mpr (pw p hp)
  rwa [List.length_range] at this
theorem good_few {m : Nat} (hm : m ≤ 8) (ss : List Tx) : ((choicesL m).filter (fitsAny ss)).length ≤ 256 := by
  have a1 := List.length_filter_le (fitsAny ss) (choicesL m)
  have a2 := choices_len m
  have a3 : 2 ^ m ≤ 2 ^ 8 := Nat.pow_le_pow_right (by decide) hm
  omega
theorem not_cl (r : Tx) : ¬ Cl r r := by
  rintro ⟨i, x, y, e1, e2, _, _, n⟩
  rw [e1] at e2
  exact n (Option.some.inj e2)
theorem pcs_empty {w : Nat} {ps : List Nat} {S : Tx → Prop} {out : List Tx} (P : Pcs w ps S out) (h : ∀ l, Ltr w l → ¬ S l) : out = [] := by
  cases out with
  | nil => rfl
  | cons r out =>
    have hr := P.row r List.mem_cons_self
    obtain ⟨l, hl, h1, _⟩ := common hr hr (not_cl r)
    exact absurd ((P.cov l hl).mp ⟨r, List.mem_cons_self, h1⟩) (h l hl)
/-- signs by a comprehension over numbers -/
theorem lc_bits {X : Str → Prop} {f : D → R (Option (Bool × D))} {l : List Int} {K : Bool × List D → Prop} (hf : ∀ x ∈ l, RS (fun _ => False) (f (.int x)) fun o => ∃ c, Bt c ∧ o = some (false, tx [c])) (q : ∀ b : Tx, Ltr l.length b → K (false, b.map fun c => tx [c])) : RS X (lcR f (l.map PyData.int)) K := by
  refine rs_lc (fun i m L => m = false ∧ ∃ b : Tx, L = (b.map fun c => tx [c]) ∧ b.length = i ∧ ∀ c ∈ b, Bt c) ⟨rfl, [], rfl, rfl, by simp⟩ (fun i d m L hd' h => ?_) (fun m L h => ?_)
  · obtain ⟨rfl, b, rfl, hl, hb⟩ := h
    obtain ⟨hi, rfl⟩ := map_at hd'
    refine rs_imp (rs_x (hf _ (List.getElem_mem hi)) fun _ => False.elim) ?_
    rintro _ ⟨c, hc, rfl⟩
    exact ⟨rfl, b ++ [c], by simp, by simp [hl], M.mem_app hb hc⟩
  · obtain ⟨rfl, b, rfl, hl, hb⟩ := h
    rw [List.length_map] at hl
    exact q b ⟨hl, hb⟩
end En
set_option Elab.async false
set_option linter.all false
set_option maxRecDepth 100000
set_option maxHeartbeats 4000000
namespace En
open PySem PySem.Spec PyProof.Rows L2

/-! ### a def of one parameter that tells a text with a sign replaced -/
def repG (y z : Str) : List D → R Rv := fun ds => match ds with
  | [.str x] => if x.length + (x.length + 1) * z.length ≤ 16777216 then .ok (.fr false (.str (Txt.replace x y z))) else .bad
  | _ => .bad
/-- the shape of such a def's body -/
def RepBody (n y z : Str) (body : List Stmt) : Prop := ∃ p0 apos j1 c1 j2 c2 pos pr, body = [.Return (some (.Call (.Attribute (.Name n p0) "replace" apos) [.Constant (.str y) j1 c1, .Constant (.str z) j2 c2] [] pos)) pr] ∧ (apos.endLine == pos.line) = true
section
variable {P : Program} {w : World} {K : PySem.W.Frag} {mg : Str → Option Value} {base : Heap}
theorem fn_rep {x qual n y z : Str} {st : Stmt} {fa : Addr} {fd : FuncData} {k : Nat} (F : Fun K x qual st fa fd) (S : FnScope [n] [n] (defScope st)) (hs : slotOk [n] (defScope st) 0 n = true) (hyz : (y == z) = false) (hnc : ((defScope st).names.all fun y => !(y.2 == NameKind.cell)) = true) (hb : RepBody n y z (defBody st)) :
    FnOk P w K mg base (L2.CX P w) (k + 1) fa fd [n] (spG mg 1 (repG y z)) := by
  obtain ⟨oc, od, kV, doc, pm, an, cdv, ct, osl, rfl, lk, hcd⟩ := F.ex
  refine fn_ofT lk hcd S (fun y hy e => ?_) (Nat.le_refl 1) (fun vs H Q E h => h.1) fun A outer s H vs Q E hr h => ?_
  · have := List.all_eq_true.mp hnc y hy
    rw [e] at this
    exact absurd this (by decide)
  obtain ⟨hl, M, ds, hM, hD, h⟩ := h
  obtain ⟨p0, apos, j1, c1, j2, c2, pos, pr, e, hline⟩ := hb
  rw [e]
  refine ⟨_, CwR.psst_one (CwR.pst_ret (CwR.pet_replC (pe_v hs) hyz (by rfl) (by rfl) hline)), ?_⟩
  show ∃ v, (L2.start [n] vs)[0]? = some (some v) ∧ ∃ x, v = .str x ∧ x.length + (x.length + 1) * z.length ≤ 16777216 ∧ Q (.str (Txt.replace x y z)) H
  cases hD with
  | nil => cases hl
  | @cons v vs' d' ds' t r =>
    cases r with
    | cons => cases hl
    | nil =>
      refine ⟨v, rfl, ?_⟩
      cases d' with
      | str x =>
        cases t with
        | str =>
        refine ⟨x, rfl, ?_⟩
        by_cases hf : x.length + (x.length + 1) * z.length ≤ 16777216
        · refine ⟨hf, ?_⟩
          have h' : Rp E mg H (if x.length + (x.length + 1) * z.length ≤ 16777216 then .ok (.fr false (.str (Txt.replace x y z))) else .bad) fun r => ∀ v H', Same H H' → RvOk H M H H' v r → Q v H' := h
          rw [if_pos hf] at h'
          exact h' _ _ (Same.refl _) (show Dt H _ (.str _) (.str _) from .str _)
        · have h' : Rp E mg H (if x.length + (x.length + 1) * z.length ≤ 16777216 then .ok (.fr false (.str (Txt.replace x y z))) else .bad) fun r => ∀ v H', Same H H' → RvOk H M H H' v r → Q v H' := h
          rw [if_neg hf] at h'
          exact h'.elim
      | _ => exact h.elim
theorem fns_rep {x n y z : Str} {st : Stmt} {k : Nat} {Γ : FT} (G : FnsOk P w K mg base k Γ) (h : Has K mg x st [n]) (S : FnScope [n] [n] (defScope st)) (hs : slotOk [n] (defScope st) 0 n = true) (hyz : (y == z) = false) (hnc : ((defScope st).names.all fun y => !(y.2 == NameKind.cell)) = true) (hb : RepBody n y z (defBody st)) :
    FnsOk P w K mg base (k + 1) (put Γ x 1 (repG y z)) := by
  obtain ⟨fa, fd, F, hm, hbi⟩ := h
  have F2 := fn_rep (P := P) (w := w) (base := base) (mg := mg) (k := k) F S hs hyz hnc hb
  intro f n' g e
  unfold put at e
  split at e
  · rename_i e1
    subst e1
    cases e
    exact ⟨fa, fd, [n], F2, hm, F.kp, hbi⟩
  · obtain ⟨fa, fd, ps, F3, q⟩ := G f n' g e
    exact ⟨fa, fd, ps, F3.mono (Nat.le_succ _), q⟩
end
/-- a row's least letter -/
def leastL (r : Tx) : Tx := r.map fun c => if c = 45 then 48 else c
theorem replS_one (a b : Nat) : ∀ l : Tx, StrLaws.replS [a] [b] 0 l = l.map fun c => if c = a then b else c
  | [] => by rw [StrLaws.replS]; rfl
  | c :: r => by
    rw [StrLaws.replS]
    have ih := replS_one a b r
    show (if [c] = [a] then [b] ++ StrLaws.replS [a] [b] 0 r else c :: StrLaws.replS [a] [b] 0 r) = _
    rw [ih]
    by_cases h : c = a
    · simp [h]
    · simp [h]
theorem least_ok {X : Str → Prop} {K : Rv → Prop} (r : Tx) (h : r.length ≤ 1000) (q : K (.fr false (tx (leastL r)))) : RS X (repG "-" "0" [tx r]) K := by
  have e1 : (⟨r.toArray⟩ : Str).length = r.length := by simp [Str.length]
  have e2 : Str.length "0" = 1 := by decide
  show RS X (if (⟨r.toArray⟩ : Str).length + ((⟨r.toArray⟩ : Str).length + 1) * Str.length "0" ≤ 16777216 then R.ok (Rv.fr false (.str (Txt.replace ⟨r.toArray⟩ "-" "0"))) else .bad) K
  rw [e1, e2, if_pos (by omega), rs_ok, str_tx]
  have e3 : (Txt.replace ⟨r.toArray⟩ "-" "0").cps.toList = leastL r := by
    rw [StrLaws.replace_list (by decide)]
    exact replS_one 45 48 r
  rw [e3]
  exact q
end En
set_option Elab.async false
set_option linter.all false
set_option maxRecDepth 100000
set_option maxHeartbeats 4000000
namespace En
open PySem L2

/-! ### rules -/
abbrev Ru := Tx × Tx × Tx
def rl (r : Ru) : D := .tuple [tx r.1, tx r.2.1, tx r.2.2]
def passT : Tx := [112, 97, 115, 115]
def dropT : Tx := [100, 114, 111, 112]
@[simp] theorem lit_pass : (PyData.str (Str.ofString "pass") : D) = tx passT := (rfl)
@[simp] theorem lit_drop : (PyData.str (Str.ofString "drop") : D) = tx dropT := (rfl)
@[simp] theorem pass_ne : ¬ passT = dropT := by decide
def RuOk (m : Nat) (r : Ru) : Prop := Row m r.1 ∧ Row m r.2.2 ∧ (r.2.1 = passT ∨ r.2.1 = dropT)
@[simp] theorem imm_rl (r : Ru) : imm (rl r) = true := by simp [rl]
@[simp] theorem imms_rl (l : List Ru) : imms (l.map rl) = true := by
  induction l with
  | nil => simp
  | cons a l ih => simp [ih]
@[simp] theorem ans_rls (b m : Bool) (l : List Ru) : ans b (.ow m (.list (l.map rl))) = .ok (.ow false (.list (l.map rl))) := ans_imms (imms_rl l)
theorem rl0 (r : Ru) : semIx (rl r) (.int 0) = some (tx r.1) := ix_tup (i := 0) rfl
theorem rl1 (r : Ru) : semIx (rl r) (.int 1) = some (tx r.2.1) := ix_tup (i := 1) rfl
theorem rl2 (r : Ru) : semIx (rl r) (.int 2) = some (tx r.2.2) := ix_tup (i := 2) rfl
/-- a rule told at all places -/
def wideL (w : Nat) (ps : List Nat) (r : Ru) : Ru := (spreadL r.1 ps (List.replicate w 45), r.2.1, spreadL r.2.2 ps (List.replicate w 45))
/-- the first that has a mark -/
noncomputable def firstOf (P : Ru → Prop) (rs : List Ru) : Nat := rs.findIdx fun r => @decide (P r) (Classical.propDecidable _)
theorem first_at {P : Ru → Prop} {rs : List Ru} {i : Nat} (h : ∀ r ∈ rs.take i, ¬ P r) (hi : i < rs.length) (hp : P rs[i]) : firstOf P rs = i := by
  unfold firstOf
  rw [List.findIdx_eq hi]
  refine ⟨@decide_eq_true _ (Classical.propDecidable _) hp, fun j hj => @decide_eq_false _ (Classical.propDecidable _) (h _ ?_)⟩
  rw [← List.getElem_take (j := i) (h := by rw [List.length_take]; omega)]
  exact List.getElem_mem _
theorem first_no {P : Ru → Prop} {rs : List Ru} (h : ∀ r ∈ rs, ¬ P r) : firstOf P rs = rs.length := by
  unfold firstOf
  rw [List.findIdx_eq_length]
  exact fun r hr => @decide_eq_false _ (Classical.propDecidable _) (h r hr)
theorem first_le (P : Ru → Prop) (rs : List Ru) : firstOf P rs ≤ rs.length := List.findIdx_le_length
theorem first_congr {P Q : Ru → Prop} {rs : List Ru} (h : ∀ r ∈ rs, (P r ↔ Q r)) : firstOf P rs = firstOf Q rs := by
  induction rs with
  | nil => rfl
  | cons r rs ih =>
    have ih := ih fun a ha => h a (List.mem_cons_of_mem _ ha)
    have hr := h r List.mem_cons_self
    unfold firstOf at ih ⊢
    rw [List.findIdx_cons, List.findIdx_cons, ih]
    have : @decide (P r) (Classical.propDecidable _) = @decide (Q r) (Classical.propDecidable _) := by
      rw [Bool.eq_iff_iff, @decide_eq_true_iff _ (Classical.propDecidable _), @decide_eq_true_iff _ (Classical.propDecidable _)]
      exact hr
    rw [this]
theorem first_map {P : Ru → Prop} (f : Ru → Ru) (rs : List Ru) : firstOf P (rs.map f) = firstOf (fun r => P (f r)) rs := by
  unfold firstOf
  rw [List.findIdx_map]
  rfl
@[simp] theorem isi_int_i (i : Int) : semIsi (.int i) "int" = some true := by
  unfold semIsi
  rw [if_neg (by decide), if_neg (by decide), if_pos rfl]
@[simp] theorem isi_bool_i (i : Int) : semIsi (.int i) "bool" = some false := isi_bool _
@[simp] theorem isi_tup_t (l : List D) : semIsi (.tuple l) "tuple" = some true := by
  unfold semIsi
  rw [if_neg (by decide), if_neg (by decide), if_neg (by decide), if_neg (by decide), if_pos rfl]
namespace M
def ShortsAt (Γ : FT) : Prop := ∃ Γ' n, StreamAt Γ' ∧ Γ "_law_shorts" = some (2, fun ds => runF Γ' n shorts ds)
def SpreadAt (Γ : FT) : Prop := ∃ Γ' n, Γ "_law_spread" = some (3, fun ds => runF Γ' n spread ds)
def rules : MF := ⟨7, (.cons (.set 2 (.lst .nil) true) (.cons (.for_ (.n 3) (.e (.v 0)) (.cons (.unp [4, 5] (.call "_law_shorts" (.cons (.lst (.cons (.bin .FloorDiv (.v 3) (.ki 4)) (.cons (.bin .Mod (.bin .Mult (.bin .FloorDiv (.v 3) (.ki 4)) (.ki 69621)) (.ki 1000003)) .nil))) (.cons (.v 1) .nil)))) (.cons (.set 6 (.ks "pass") false) (.cons (.ife (.cmp .Eq (.bin .Mod (.v 3) (.ki 4)) (.ki 0)) (.cons (.set 6 (.ks "drop") false) .nil) .nil) (.cons (.ife (.cmp .Eq (.bin .Mod (.v 3) (.ki 4)) (.ki 1)) (.cons (.set 5 (.bin .Mult (.ks "-") (.v 1)) false) .nil) .nil) (.cons (.ife (.cmp .Eq (.bin .Mod (.v 3) (.ki 4)) (.ki 2)) (.cons (.set 5 (.v 4) false) .nil) .nil) (.cons (.app 2 (.tup (.cons (.v 4) (.cons (.v 6) (.cons (.v 5) .nil))))) .nil))))))) (.cons (.reto 2) .nil)))⟩
theorem rules_ok {Γ : FT} {n : Nat} {X : Str → Prop} {K : Rv → Prop} (hs : ShortsAt Γ) (cs : List Int) (m : Nat) (hm : m ≤ 100) (hc : cs.length ≤ 1000) (q : ∀ rs : List Ru, rs.length = cs.length → (∀ r ∈ rs, RuOk m r) → K (.ow false (.list (rs.map rl)))) : RS X (runF Γ n rules [.list (cs.map .int), .int (m : Int)]) K := by
  obtain ⟨Γ1, n1, hst, e1⟩ := hs
  refine rs_run ?_
  simp [rules, startE]
  obtain ⟨I, hI⟩ : ∃ I : Nat → List Sl → Prop, ∀ i e, I i e = ∃ (s3 s4 s5 s6 : Sl) (rs : List Ru) (L : D), e = [.fr true (.list (cs.map .int)), .fr false (.int (m : Int)), .ow false L, s3, s4, s5, s6] ∧ L = .list (rs.map rl) ∧ rs.length = i ∧ ∀ r ∈ rs, RuOk m r := ⟨_, fun _ _ => rfl⟩
  refine fs_for I ?_ (fun i d e hd h => ?_) (fun e h => ?_)
  · rw [hI]
    exact ⟨_, _, _, _, [], _, rfl, rfl, rfl, by simp⟩
  · rw [hI] at h
    obtain ⟨s3, s4, s5, s6, rs, L, rfl, rfl, hl, hr⟩ := h
    obtain ⟨hi, rfl⟩ := map_at hd
    generalize cs[i] = c at *
    simp [-fs_if, e_call e1, En.mod_int, En.div_int, mul_r (j := 69621) (by omega), sz 2 (by decide)]
    refine shorts_ok (Γ := Γ1) hst [c / 4, c / 4 * 69621 % 1000003] m (by omega) (by simp) fun ss hsl hss => ?_
    obtain ⟨a, b, rfl⟩ : ∃ a b, ss = [a, b] := by
      match ss, hsl with
      | [a, b], _ => exact ⟨a, b, rfl⟩
    have ha := hss a (by simp)
    have hb := hss b (by simp)
    simp [-fs_if, En.mod_int]
    refine fs_cut (fun e => ∃ w : Tx, (w = passT ∨ w = dropT) ∧ e = [.fr true (.list (cs.map .int)), .fr false (.int (m : Int)), .ow false (.list (rs.map rl)), .fr true (.int c), .fr false (tx a), .fr false (tx b), .fr false (tx w)]) (fun _ => ?_) (fun _ => ?_) (fun e h => ?_)
    · simp
    · simp
    obtain ⟨w, hw, rfl⟩ := h
    simp [-fs_if, En.mod_int]
    refine fs_cut (fun e => ∃ o : Tx, Row m o ∧ e = [.fr true (.list (cs.map .int)), .fr false (.int (m : Int)), .ow false (.list (rs.map rl)), .fr true (.int c), .fr false (tx a), .fr false (tx o), .fr false (tx w)]) (fun _ => ?_) (fun _ => ?_) (fun e h => ?_)
    · simp [dashes (n := m) (by omega)]
      exact ⟨_, dash_row m, rfl⟩
    · simp
      exact ⟨_, hb, rfl⟩
    obtain ⟨o, ho, rfl⟩ := h
    simp [-fs_if, En.mod_int]
    refine fs_cut (fun e => ∃ o : Tx, Row m o ∧ e = [.fr true (.list (cs.map .int)), .fr false (.int (m : Int)), .ow false (.list (rs.map rl)), .fr true (.int c), .fr false (tx a), .fr false (tx o), .fr false (tx w)]) (fun _ => ?_) (fun _ => ?_) (fun e h => ?_)
    · simp
      exact ⟨_, ha, rfl⟩
    · simp
      exact ⟨_, ho, rfl⟩
    obtain ⟨o, ho, rfl⟩ := h
    have few : rs.length < sizeLine := slt (by omega)
    simp [sz 3 (by decide), few]
    rw [hI]
    refine ⟨_, _, _, _, rs ++ [(a, w, o)], _, rfl, by simp [rl], by simp [hl], fun r h => ?_⟩
    rcases List.mem_append.mp h with h | h
    · exact hr r h
    · rw [List.mem_singleton.mp h]; exact ⟨ha, ho, hw⟩
  · rw [hI] at h
    obtain ⟨s3, s4, s5, s6, rs, L, rfl, rfl, hl, hr⟩ := h
    simp
    exact q rs (by simpa using hl) hr
def base : MF := ⟨3, (.cons (.ret (.mt (.ks "") "join" (.cons (.lc (.n 2) (.e (.call "_law_stream" (.cons (.v 0) (.cons (.v 1) .nil)))) .no (.ix (.ks "01") (.bin .Mod (.bin .FloorDiv (.v 2) (.ki 4)) (.ki 2)))) .nil))) .nil)⟩
theorem base_ok {Γ : FT} {n : Nat} {X : Str → Prop} {K : Rv → Prop} (hs : StreamAt Γ) (c : Int) (w : Nat) (hw : w ≤ 1000) (q : ∀ b : Tx, Ltr w b → K (.fr false (tx b))) : RS X (runF Γ n base [.int c, .int (w : Int)]) K := by
  obtain ⟨Γ1, n1, e1⟩ := hs
  refine rs_run ?_
  simp [base, startE, e_call e1]
  refine stream_okN (Γ := Γ1) c w hw fun l hl _ => ?_
  simp
  refine lc_bits (fun x hx => ?_) fun b hb => ?_
  · obtain ⟨c, hc, e⟩ := ix_01 (x / 4 % 2) (by omega) (by omega)
    simp [lcT, En.mod_int, En.div_int, e]
    exact ⟨c, hc, rfl⟩
  rw [hl] at hb
  refine ⟨sz _ (by omega), ?_⟩
  simp [M.join_sg (l := b) (by have := hb.1; omega)]
  exact q b hb
def whole : MF := ⟨1, (.cons (.ret (.bop true (.cons (.isi (.v 0) "int") (.cons (.not_ (.isi (.v 0) "bool")) .nil)))) .nil)⟩
theorem whole_ok {Γ : FT} {n : Nat} {X : Str → Prop} {K : Rv → Prop} (i : Int) (q : K (.fr false (.bool true))) : RS X (runF Γ n whole [.int i]) K := by
  refine rs_run ?_
  simp [whole, startE]
  exact q
end M
end En
set_option Elab.async false
set_option linter.all false
set_option maxRecDepth 100000
set_option maxHeartbeats 4000000
namespace En
open PySem L2

@[simp] theorem mk_rl (m : Bool) (r : Ru) : mk m false (rl r) = .fr m (rl r) := mk_tup _ _
theorem rl_at {rs : List Ru} {i : Nat} (h : i < rs.length) : semIx (.list (rs.map rl)) (.int (i : Int)) = some (rl rs[i]) := ix_list (by rw [List.getElem?_map, List.getElem?_eq_getElem h]; rfl)
def dropD : D := .tuple [tx dropT, .none]
/-- what rules do to a letter -/
noncomputable def deedOf (P : Ru → Prop) (rs : List Ru) (l : Tx) : D := match rs[firstOf P rs]? with
  | some r => if r.2.1 = dropT then dropD else .tuple [tx passT, tx (wr l r.2.2)]
  | none => dropD
theorem deed_none {P : Ru → Prop} {rs : List Ru} {l : Tx} (h : firstOf P rs = rs.length) : deedOf P rs l = dropD := by
  unfold deedOf
  rw [h, List.getElem?_eq_none (Nat.le_refl _)]
theorem deed_some {P : Ru → Prop} {rs : List Ru} {l : Tx} (h : firstOf P rs < rs.length) : deedOf P rs l = if rs[firstOf P rs].2.1 = dropT then dropD else .tuple [tx passT, tx (wr l rs[firstOf P rs].2.2)] := by
  unfold deedOf
  rw [List.getElem?_eq_getElem h]
namespace M
def wide : MF := ⟨7, (.cons (.set 3 (.lst .nil) true) (.cons (.for_ (.t [4, 5, 6]) (.e (.v 0)) (.cons (.app 3 (.tup (.cons (.call "_law_spread" (.cons (.v 4) (.cons (.v 1) (.cons (.bin .Mult (.ks "-") (.v 2)) .nil)))) (.cons (.v 5) (.cons (.call "_law_spread" (.cons (.v 6) (.cons (.v 1) (.cons (.bin .Mult (.ks "-") (.v 2)) .nil)))) .nil))))) .nil)) (.cons (.reto 3) .nil)))⟩
theorem wide_ok {Γ : FT} {n : Nat} {X : Str → Prop} {K : Rv → Prop} (hs : SpreadAt Γ) (rs : List Ru) (ps : List Nat) (w : Nat) (hw : w ≤ 900) (hl : rs.length ≤ 1000) (pw : ∀ p ∈ ps, p < w) (q : K (.ow false (.list ((rs.map (wideL w ps)).map rl)))) : RS X (runF Γ n wide [.list (rs.map rl), .list (ps.map fun (p : Nat) => .int (p : Int)), .int (w : Int)]) K := by
  obtain ⟨Γ1, n1, e1⟩ := hs
  refine rs_run ?_
  simp [wide, startE]
  obtain ⟨I, hI⟩ : ∃ I : Nat → List Sl → Prop, ∀ i e, I i e = ∃ (s4 s5 s6 : Sl) (L : D), e = [.fr true (.list (rs.map rl)), .fr true (.list (ps.map fun (p : Nat) => .int (p : Int))), .fr false (.int (w : Int)), .ow false L, s4, s5, s6] ∧ L = .list (((rs.map (wideL w ps)).take i).map rl) := ⟨_, fun _ _ => rfl⟩
  refine fs_for I ?_ (fun i d e hd h => ?_) (fun e h => ?_)
  · rw [hI]
    exact ⟨_, _, _, _, rfl, rfl⟩
  · rw [hI] at h
    obtain ⟨s4, s5, s6, L, rfl, rfl⟩ := h
    obtain ⟨hi, rfl⟩ := map_at hd
    have g := take_get (l := rs.map (wideL w ps)) (a := wideL w ps rs[i]) (by rw [List.getElem?_map, List.getElem?_eq_getElem hi]; rfl)
    have few : min i (rs.length) < sizeLine := slt (by omega)
    generalize rs[i] = r at *
    simp [rl, e_call e1, dashes (n := w) (by omega)]
    refine spread_ok (Γ := Γ1) r.1 ps _ (by rw [List.length_replicate]; omega) (by rw [List.length_replicate]; exact pw) ?_
    simp [rl, e_call e1, dashes (n := w) (by omega)]
    refine spread_ok (Γ := Γ1) r.2.2 ps _ (by rw [List.length_replicate]; omega) (by rw [List.length_replicate]; exact pw) ?_
    simp [sz 3 (by decide), few]
    rw [hI]
    refine ⟨_, _, _, _, rfl, ?_⟩
    rw [g, List.map_append]
    simp [rl, wideL]
  · rw [hI] at h
    obtain ⟨s4, s5, s6, L, rfl, rfl⟩ := h
    rw [List.take_of_length_le (by simp)]
    simp
    simpa using q
def lawFirst : MF := ⟨3, (.cons (.for_ (.n 2) (.r1 (.bi "len" (.cons (.v 0) .nil))) (.cons (.ife (.call "_law_fits" (.cons (.ix (.ix (.v 0) (.v 2)) (.ki 0)) (.cons (.v 1) .nil))) (.cons (.ret (.v 2)) .nil) .nil) .nil)) (.cons (.ret (.bi "len" (.cons (.v 0) .nil))) .nil))⟩
theorem lawFirst_ok {Γ : FT} {n : Nat} {X : Str → Prop} {K : Rv → Prop} (hf : FitsAt Γ) (rs : List Ru) (c : Tx) (hl : rs.length ≤ 1000) (q : K (.fr false (.int (firstOf (fun r => ¬ Cl r.1 c) rs : Nat)))) : RS X (runF Γ n lawFirst [.list (rs.map rl), tx c]) K := by
  obtain ⟨Γ1, n1, e1⟩ := hf
  refine rs_run ?_
  simp [lawFirst, startE]
  rw [rg1_le _ (by omega) (by omega)]
  simp
  obtain ⟨I, hI⟩ : ∃ I : Nat → List Sl → Prop, ∀ i e, I i e = ∃ (s : Sl), e = [.fr true (.list (rs.map rl)), .fr false (tx c), s] ∧ ∀ r ∈ rs.take i, ¬ ¬ Cl r.1 c := ⟨_, fun _ _ => rfl⟩
  refine fs_for I ?_ (fun i d e hd h => ?_) (fun e h => ?_)
  · rw [hI]
    exact ⟨_, rfl, by simp⟩
  · rw [hI] at h
    obtain ⟨s, rfl, hn⟩ := h
    obtain ⟨hi, rfl⟩ := rngD_at hd
    have hi' : i < rs.length := by simpa using hi
    have g := take_get (List.getElem?_eq_getElem hi')
    simp [rl_at hi', rl0, e_call e1]
    refine fits_ok (Γ := Γ1) _ _ fun t ht => ?_
    cases t with
    | true =>
      simp
      have := first_at (P := fun r : Ru => ¬ Cl r.1 c) hn hi' (ht.mp rfl)
      rw [this] at q
      exact q
    | false =>
      simp
      rw [hI]
      refine ⟨_, rfl, fun r hr => ?_⟩
      rw [g] at hr
      rcases List.mem_append.mp hr with hr | hr
      · exact hn r hr
      · rw [List.mem_singleton.mp hr]
        exact fun z => by have := ht.mpr z; cases this
  · rw [hI] at h
    obtain ⟨s, rfl, hn⟩ := h
    have hn : ∀ r ∈ rs, ¬ ¬ Cl r.1 c := fun r hr => hn r (by rw [List.take_of_length_le (by simp [rngD])]; exact hr)
    simp
    rw [first_no (P := fun r : Ru => ¬ Cl r.1 c) hn] at q
    exact q
def ruleFirst : MF := ⟨4, (.cons (.for_ (.t [2, 3]) (.enum (.v 0)) (.cons (.ife (.call "row_holds" (.cons (.ix (.v 3) (.ki 0)) (.cons (.v 1) .nil))) (.cons (.ret (.v 2)) .nil) .nil) .nil)) (.cons (.ret (.bi "len" (.cons (.v 0) .nil))) .nil))⟩
theorem ruleFirst_ok {Γ : FT} {n : Nat} {X : Str → Prop} {K : Rv → Prop} (hf : HoldsAt Γ) (rs : List Ru) (c : Tx) (q : ∀ m, K (.fr m (.int (firstOf (fun r => Hold r.1 c) rs : Nat)))) : RS X (runF Γ n ruleFirst [.list (rs.map rl), tx c]) K := by
  obtain ⟨Γ1, n1, e1⟩ := hf
  refine rs_run ?_
  simp [ruleFirst, startE]
  obtain ⟨I, hI⟩ : ∃ I : Nat → List Sl → Prop, ∀ i e, I i e = ∃ (s s' : Sl), e = [.fr true (.list (rs.map rl)), .fr false (tx c), s, s'] ∧ ∀ r ∈ rs.take i, ¬ Hold r.1 c := ⟨_, fun _ _ => rfl⟩
  refine fs_for I ?_ (fun i d e hd h => ?_) (fun e h => ?_)
  · rw [hI]
    exact ⟨_, _, rfl, by simp⟩
  · rw [hI] at h
    obtain ⟨s, s', rfl, hn⟩ := h
    obtain ⟨d', hd', rfl⟩ := enum_at hd
    obtain ⟨hi', rfl⟩ := map_at hd'
    have g := take_get (List.getElem?_eq_getElem hi')
    simp [rl0, e_call e1]
    refine rowHolds_ok (Γ := Γ1) _ _ fun t ht => ?_
    cases t with
    | true =>
      simp
      have := first_at (P := fun r : Ru => Hold r.1 c) hn hi' (ht.mp rfl)
      rw [this] at q
      exact q _
    | false =>
      simp
      rw [hI]
      refine ⟨_, _, rfl, fun r hr => ?_⟩
      rw [g] at hr
      rcases List.mem_append.mp hr with hr | hr
      · exact hn r hr
      · rw [List.mem_singleton.mp hr]
        exact fun z => by have := ht.mpr z; cases this
  · rw [hI] at h
    obtain ⟨s, s', rfl, hn⟩ := h
    have hn : ∀ r ∈ rs, ¬ Hold r.1 c := fun r hr => hn r (by rw [List.take_of_length_le (by rw [enumD_length]; simp)]; exact hr)
    simp
    rw [first_no (P := fun r : Ru => Hold r.1 c) hn] at q
    exact q _
def lawWritten : MF := ⟨4, (.cons (.ret (.mt (.ks "") "join" (.cons (.lc (.t [2, 3]) (.zip (.v 0) (.v 1)) .no (.ix (.lst (.cons (.v 2) (.cons (.v 3) .nil))) (.bi "int" (.cons (.cmp .NotEq (.v 3) (.ks "-")) .nil)))) .nil))) .nil)⟩
theorem lawWritten_ok {Γ : FT} {n : Nat} {X : Str → Prop} {K : Rv → Prop} (a o : Tx) (ha : a.length ≤ 1000) (q : K (.fr false (tx (wr a o)))) : RS X (runF Γ n lawWritten [tx a, tx o]) K := by
  refine rs_run ?_
  simp [lawWritten, startE]
  refine rs_lc (fun i m L => m = false ∧ L = ((wr a o).take i).map fun c => tx [c]) ⟨rfl, rfl⟩ (fun i d m L hd' h => ?_) (fun m L h => ?_)
  · obtain ⟨rfl, rfl⟩ := h
    obtain ⟨hi, hj, rfl⟩ := zip_at hd'
    have g := take_get (wr_get hi hj)
    have pk0 : ∀ x y : D, semIx (.list [x, y]) (.int 0) = some x := fun x y => ix_list (i := 0) rfl
    have pk1 : ∀ x y : D, semIx (.list [x, y]) (.int 1) = some y := fun x y => ix_list (i := 1) rfl
    simp [lcT, sz 2 (by decide)]
    by_cases hz : o[i] = 45
    · rw [if_pos hz] at g
      simp [hz, pk0]
      rw [← List.map_take, ← List.map_take, g, List.map_append]
      rfl
    · rw [if_neg hz] at g
      simp [hz, pk1]
      rw [← List.map_take, ← List.map_take, g, List.map_append]
      rfl
  · obtain ⟨rfl, rfl⟩ := h
    have hl := wr_len a o
    rw [List.take_of_length_le (by rw [hl, List.length_zipWith]; exact Nat.le_refl _)]
    refine ⟨sz _ (by omega), ?_⟩
    simp [M.join_sg (l := wr a o) (by omega)]
    exact q
def lawDeed : MF := ⟨3, (.cons (.set 2 (.call "_law_first" (.cons (.v 0) (.cons (.v 1) .nil))) false) (.cons (.ife (.bop false (.cons (.cmp .Eq (.v 2) (.bi "len" (.cons (.v 0) .nil))) (.cons (.cmp .Eq (.ix (.ix (.v 0) (.v 2)) (.ki 1)) (.ks "drop")) .nil))) (.cons (.ret (.tup (.cons (.ks "drop") (.cons .kn .nil)))) .nil) .nil) (.cons (.ret (.tup (.cons (.ks "pass") (.cons (.call "_law_written" (.cons (.v 1) (.cons (.ix (.ix (.v 0) (.v 2)) (.ki 2)) .nil))) .nil)))) .nil)))⟩
def FirstAt (Γ : FT) : Prop := ∃ Γ' n, FitsAt Γ' ∧ Γ "_law_first" = some (2, fun ds => runF Γ' n lawFirst ds)
def LawWrittenAt (Γ : FT) : Prop := ∃ Γ' n, Γ "_law_written" = some (2, fun ds => runF Γ' n lawWritten ds)
theorem lawDeed_ok {Γ : FT} {n : Nat} {X : Str → Prop} {K : Rv → Prop} (hf : FirstAt Γ) (hw : LawWrittenAt Γ) (rs : List Ru) (c : Tx) (hl : rs.length ≤ 1000) (hc : c.length ≤ 1000) (q : K (.fr false (deedOf (fun r => ¬ Cl r.1 c) rs c))) : RS X (runF Γ n lawDeed [.list (rs.map rl), tx c]) K := by
  obtain ⟨Γ1, n1, hf', e1⟩ := hf
  obtain ⟨Γ2, n2, e2⟩ := hw
  refine rs_run ?_
  simp [lawDeed, startE, e_call e1]
  refine lawFirst_ok (Γ := Γ1) hf' rs c hl ?_
  have hle := first_le (fun r => ¬ Cl r.1 c) rs
  by_cases hk : firstOf (fun r => ¬ Cl r.1 c) rs < rs.length
  · rw [deed_some hk] at q
    generalize firstOf (fun r => ¬ Cl r.1 c) rs = k at *
    have hne : ¬ ((k : Int) = (rs.length : Int)) := by omega
    simp [hne, rl_at hk, rl1, rl2, e_call e2, sz 2 (by decide)]
    refine ⟨fun hd => ?_, fun hd => ?_⟩
    · rw [if_pos hd] at q; exact q
    · rw [if_neg hd] at q
      refine lawWritten_ok (Γ := Γ2) c _ hc ?_
      simp [sz 2 (by decide)]
      exact q
  · have hk : firstOf (fun r => ¬ Cl r.1 c) rs = rs.length := by omega
    rw [deed_none hk] at q
    rw [hk]
    simp [sz 2 (by decide)]
    exact q
def ruleDeed : MF := ⟨3, (.cons (.set 2 (.call "rule_first" (.cons (.v 0) (.cons (.v 1) .nil))) false) (.cons (.ife (.bop false (.cons (.cmp .Eq (.v 2) (.bi "len" (.cons (.v 0) .nil))) (.cons (.cmp .Eq (.ix (.ix (.v 0) (.v 2)) (.ki 1)) (.ks "drop")) .nil))) (.cons (.ret (.tup (.cons (.ks "drop") (.cons .kn .nil)))) .nil) .nil) (.cons (.ret (.tup (.cons (.ks "pass") (.cons (.call "row_written" (.cons (.v 1) (.cons (.ix (.ix (.v 0) (.v 2)) (.ki 2)) .nil))) .nil)))) .nil)))⟩
def RuleFirstAt (Γ : FT) : Prop := ∃ Γ' n, HoldsAt Γ' ∧ Γ "rule_first" = some (2, fun ds => runF Γ' n ruleFirst ds)
def WrittenAt (Γ : FT) : Prop := ∃ Γ' n, Γ "row_written" = some (2, fun ds => runF Γ' n written ds)
theorem ruleDeed_ok {Γ : FT} {n : Nat} {X : Str → Prop} {K : Rv → Prop} (hf : RuleFirstAt Γ) (hw : WrittenAt Γ) (rs : List Ru) (c : Tx) (hc : c.length ≤ 1000) (q : K (.fr false (deedOf (fun r => Hold r.1 c) rs c))) : RS X (runF Γ n ruleDeed [.list (rs.map rl), tx c]) K := by
  obtain ⟨Γ1, n1, hf', e1⟩ := hf
  obtain ⟨Γ2, n2, e2⟩ := hw
  refine rs_run ?_
  simp [ruleDeed, startE, e_call e1]
  refine ruleFirst_ok (Γ := Γ1) hf' rs c fun mm => ?_
  have hle := first_le (fun r => Hold r.1 c) rs
  by_cases hk : firstOf (fun r => Hold r.1 c) rs < rs.length
  · rw [deed_some hk] at q
    generalize firstOf (fun r => Hold r.1 c) rs = k at *
    have hne : ¬ ((k : Int) = (rs.length : Int)) := by omega
    simp [hne, rl_at hk, rl1, rl2, e_call e2, sz 2 (by decide)]
    refine ⟨fun hd => ?_, fun hd => ?_⟩
    · rw [if_pos hd] at q; exact q
    · rw [if_neg hd] at q
      refine written_ok (Γ := Γ2) c _ hc ?_
      simp [sz 2 (by decide)]
      exact q
  · have hk : firstOf (fun r => Hold r.1 c) rs = rs.length := by omega
    rw [deed_none hk] at q
    rw [hk]
    simp [sz 2 (by decide)]
    exact q
end M
end En
set_option Elab.async false
set_option linter.all false
set_option maxRecDepth 100000
set_option maxHeartbeats 4000000
namespace En
open PySem L2

theorem eq_same {d : D} (h : shp d = true) : eqO d d = some true := by
  have hc : d.canLay0 = true := (Bool.and_eq_true_iff.mp h).1
  have he := PySem.SeqAt.eqv_refl d hc
  unfold eqO
  split
  · rename_i x y e1 e2
    rw [e1] at e2
    cases e2
    split
    · simp
    · rw [h, he]; rfl
  · rw [h, he]; rfl
/-- so deep at most -/
def Nc (k : Nat) (d : D) : Prop := d.canLay0 = true ∧ d.depth ≤ k
theorem Nc.shp {k : Nat} {d : D} (h : Nc k d) (hk : k ≤ 64) : shp d = true := by
  show (d.canLay0 && decide (d.depth ≤ 64)) = true
  rw [h.1, Bool.true_and, decide_eq_true_iff]
  exact Nat.le_trans h.2 hk
theorem nc_all {k : Nat} : ∀ {l : List D}, (∀ d ∈ l, Nc k d) → PyData.canLayAll0 l = true ∧ PyData.depthAll l ≤ k
  | [], _ => ⟨by simp [PyData.canLayAll0], by simp [PyData.depthAll]⟩
  | d :: l, h => by
    have a := nc_all fun e he => h e (List.mem_cons_of_mem _ he)
    have b := h d List.mem_cons_self
    refine ⟨by simp [PyData.canLayAll0, a.1, b.1], ?_⟩
    have := a.2
    have := b.2
    simp only [PyData.depthAll]
    omega
theorem nc_list {k : Nat} {l : List D} (h : ∀ d ∈ l, Nc k d) : Nc (k + 1) (.list l) := by
  have a := nc_all h
  refine ⟨by simp [PyData.canLay0, a.1], ?_⟩
  have := a.2
  simp only [PyData.depth]
  omega
theorem nc_tup {k : Nat} {l : List D} (h : ∀ d ∈ l, Nc k d) : Nc (k + 1) (.tuple l) := by
  have a := nc_all h
  refine ⟨by simp [PyData.canLay0, a.1], ?_⟩
  have := a.2
  simp only [PyData.depth]
  omega
theorem Flat.nc {d : D} (h : Flat d) : Nc 0 d := ⟨h.1, by rw [h.2]; exact Nat.le_refl _⟩
theorem nc_row {w : Nat} {r : Tx} (h : Row w r) : Nc 0 (tx r) := (flat_row h).nc
theorem nc_none : Nc 0 (.none : D) := ⟨by simp [PyData.canLay0], by simp [PyData.depth]⟩
theorem nc_pass : Nc 0 (tx passT) := (flat_tx (by decide)).nc
theorem nc_drop : Nc 0 (tx dropT) := (flat_tx (by decide)).nc
theorem nc_rl {m : Nat} {r : Ru} (h : RuOk m r) : Nc 1 (rl r) := nc_tup fun d hd => by
  simp only [List.mem_cons, List.not_mem_nil, or_false] at hd
  rcases hd with rfl | rfl | rfl
  · exact nc_row h.1
  · rcases h.2.2 with e | e <;> rw [e]
    · exact nc_pass
    · exact nc_drop
  · exact nc_row h.2.1
theorem nc_two {a b : D} (ha : Nc 0 a) (hb : Nc 0 b) : Nc 1 (.tuple [a, b]) := nc_tup fun d hd => by
  simp only [List.mem_cons, List.not_mem_nil, or_false] at hd
  rcases hd with rfl | rfl
  · exact ha
  · exact hb
theorem eq_rls {m : Nat} {rs : List Ru} (h : ∀ r ∈ rs, RuOk m r) : eqO (.list (rs.map rl)) (.list (rs.map rl)) = some true := eq_same ((nc_list (k := 1) fun d hd => by
  obtain ⟨r, hr, rfl⟩ := List.mem_map.mp hd
  exact nc_rl (h r hr)).shp (by decide))
theorem wide_rl {w : Nat} {ps : List Nat} (pn : ps.Nodup) (pw : ∀ p ∈ ps, p < w) {rs : List Ru} (h : ∀ r ∈ rs, RuOk ps.length r) : ∀ r ∈ rs.map (wideL w ps), RuOk w r := fun r hr => by
  obtain ⟨s, hs, rfl⟩ := List.mem_map.mp hr
  exact ⟨spread_row pn pw (h s hs).1 (dash_row w), spread_row pn pw (h s hs).2.1 (dash_row w), (h s hs).2.2⟩
theorem cut_mem {α : Type} {l : List α} {a b : Option Int} {x : α} (h : x ∈ cutL l a b) : x ∈ l := List.mem_of_mem_drop (List.mem_of_mem_take h)
/-- a letter's first rule, told at all places -/
theorem first_wide {w : Nat} {ps : List Nat} (pn : ps.Nodup) (pw : ∀ p ∈ ps, p < w) {rs : List Ru} (h : ∀ r ∈ rs, RuOk ps.length r) {c b : Tx} (hc : Ltr ps.length c) (hb : Ltr w b) : firstOf (fun r => Hold r.1 (spreadL c ps b)) (rs.map (wideL w ps)) = firstOf (fun r => ¬ Cl r.1 c) rs := by
  rw [first_map]
  refine first_congr fun r hr => ?_
  have := hold_spread pn pw (h r hr).1.1 (spread_ltr pn pw hc hb)
  rw [atS_spread pn pw hc.1 hb.1] at this
  exact this
theorem wr_spread {w : Nat} {ps : List Nat} (pn : ps.Nodup) (pw : ∀ p ∈ ps, p < w) {c o b : Tx} (hc : c.length = ps.length) (ho : o.length = ps.length) (hb : b.length = w) : wr (spreadL c ps b) (spreadL o ps (List.replicate w 45)) = spreadL (wr c o) ps b := by
  have l1 : (spreadL c ps b).length = w := by rw [spread_len, hb]
  have l2 : (spreadL o ps (List.replicate w 45)).length = w := by rw [spread_len, List.length_replicate]
  have pb : ∀ p ∈ ps, p < b.length := fun p h => by rw [hb]; exact pw p h
  have pd : ∀ p ∈ ps, p < (List.replicate w 45).length := fun p h => by rw [List.length_replicate]; exact pw p h
  apply List.ext_getElem?
  intro q
  by_cases hq : q < w
  · rw [wr_get (by omega) (by omega)]
    have e1 := List.getElem?_eq_getElem (l := spreadL c ps b) (i := q) (by omega)
    have e2 := List.getElem?_eq_getElem (l := spreadL o ps (List.replicate w 45)) (i := q) (by omega)
    by_cases hm : q ∈ ps
    · obtain ⟨i, hi, ei⟩ := List.getElem_of_mem hm
      have ei' : ps[i]? = some q := by rw [List.getElem?_eq_getElem hi, ei]
      have gc := List.getElem?_eq_getElem (l := c) (i := i) (by omega)
      have go := List.getElem?_eq_getElem (l := o) (i := i) (by omega)
      have a1 := spread_get pn pb ei' gc
      have a2 := spread_get pn pd ei' go
      rw [a1] at e1
      rw [a2] at e2
      rw [← Option.some.inj e1, ← Option.some.inj e2]
      exact (spread_get pn pb ei' (wr_get (by omega) (by omega))).symm
    · rw [spread_other hm] at e1 e2
      rw [spread_other hm, e1]
      have h45 : (spreadL o ps (List.replicate w 45))[q]'(by omega) = 45 := List.eq_of_mem_replicate (List.mem_of_getElem? e2)
      rw [if_pos h45]
  · rw [List.getElem?_eq_none (by rw [wr_len]; omega), List.getElem?_eq_none (by rw [spread_len]; omega)]
theorem deed_wide {w : Nat} {ps : List Nat} (pn : ps.Nodup) (pw : ∀ p ∈ ps, p < w) {rs : List Ru} (h : ∀ r ∈ rs, RuOk ps.length r) {c b : Tx} (hc : Ltr ps.length c) (hb : Ltr w b) :
    (deedOf (fun r => ¬ Cl r.1 c) rs c = dropD ∧ deedOf (fun r => Hold r.1 (spreadL c ps b)) (rs.map (wideL w ps)) (spreadL c ps b) = dropD) ∨
    ∃ x, Row ps.length x ∧ deedOf (fun r => ¬ Cl r.1 c) rs c = .tuple [tx passT, tx x] ∧ deedOf (fun r => Hold r.1 (spreadL c ps b)) (rs.map (wideL w ps)) (spreadL c ps b) = .tuple [tx passT, tx (spreadL x ps b)] := by
  have ef := first_wide pn pw h hc hb
  have hle := first_le (fun r => ¬ Cl r.1 c) rs
  by_cases hk : firstOf (fun r => ¬ Cl r.1 c) rs < rs.length
  · rw [deed_some hk, deed_some (by rw [ef, List.length_map]; exact hk)]
    have er : (rs.map (wideL w ps))[firstOf (fun r => Hold r.1 (spreadL c ps b)) (rs.map (wideL w ps))]'(by rw [ef, List.length_map]; exact hk) = wideL w ps (rs[firstOf (fun r => ¬ Cl r.1 c) rs]) := by
      simp only [ef, List.getElem_map]
    rw [er]
    have hr := h _ (List.getElem_mem hk)
    generalize rs[firstOf (fun r => ¬ Cl r.1 c) rs] = r at *
    by_cases hd : r.2.1 = dropT
    · exact .inl ⟨if_pos hd, if_pos hd⟩
    · refine .inr ⟨wr c r.2.2, wr_row hc.row hr.2.1, if_neg hd, ?_⟩
      rw [if_neg (show ¬ (wideL w ps r).2.1 = dropT from hd)]
      show PyData.tuple [tx passT, tx (wr (spreadL c ps b) (spreadL r.2.2 ps (List.replicate w 45)))] = _
      rw [wr_spread pn pw hc.1 hr.2.1.1 hb.1]
  · have hk : firstOf (fun r => ¬ Cl r.1 c) rs = rs.length := by omega
    exact .inl ⟨deed_none hk, deed_none (by rw [ef, hk, List.length_map])⟩
namespace M
theorem turned_ok {Γ : FT} {n : Nat} {X : Str → Prop} {K : Rv → Prop} {w : Nat} (l : Tx) (p : Int) (hl : Ltr w l) (hw : w ≤ 1000) (h0 : 0 ≤ p) (h1 : p < w) (q : ∀ l' : Tx, Ltr w l' → Cl l' l → K (.fr false (tx l'))) : RS X (runF Γ n turnedAt [tx l, .int p]) K := by
  obtain ⟨k, rfl⟩ := Int.eq_ofNat_of_zero_le h0
  have hll := hl.1
  have hk : k < l.length := by omega
  have hb := hl.2 l[k] (List.getElem_mem hk)
  have hd : l.length ≤ sizeLine := sz _ (by omega)
  have ek := List.getElem?_eq_getElem hk
  have fin : ∀ c, Bt c → c ≠ l[k] → K (.fr false (tx (l.set k c))) := fun c hc hn => by
    refine q _ ⟨by rw [List.length_set]; exact hll, fun y hy => ?_⟩ ⟨k, c, _, List.getElem?_set_self hk, ek, ?_, ?_, hn⟩
    · rcases List.mem_or_eq_of_mem_set hy with hy | hy
      · exact hl.2 y hy
      · rw [hy]; exact hc
    · rcases hc with z | z <;> omega
    · rcases hb with z | z <;> omega
  have c2 : cutL l (some ((k : Int) + 1)) none = l.drop (k + 1) := cut_from (k := k + 1)
  have i0 : semIx (tx [49, 48]) (.int 0) = some (tx [49]) := ix_tx (i := 0) (sz _ (by decide)) rfl
  have i1 : semIx (tx [49, 48]) (.int 1) = some (tx [48]) := ix_tx (i := 1) (sz _ (by decide)) rfl
  refine rs_run ?_
  simp only [turnedAt, startE]
  rcases hb with h | h
  · simp [sl_tx hd, ix_tx hd (List.getElem?_eq_getElem hk), h, i0, cut_to, c2, sp_a1 (l := l) (i := k) (by omega), sp_a2 (l := l) (i := k) (by omega) hk]
    exact fin 49 (.inr rfl) (by omega)
  · simp [sl_tx hd, ix_tx hd (List.getElem?_eq_getElem hk), h, i1, cut_to, c2, sp_a1 (l := l) (i := k) (by omega), sp_a2 (l := l) (i := k) (by omega) hk]
    exact fin 48 (.inl rfl) (by omega)
end M
end En
set_option Elab.async false
set_option linter.all false
set_option maxRecDepth 100000
set_option maxHeartbeats 4000000
namespace En
open PySem L2

theorem mt_row {w : Nat} {a b : Tx} (ha : Row w a) (hb : Row w b) : Row w (mt a b) := by
  refine ⟨by rw [mt_len, ha.1, hb.1, Nat.min_self], fun c hc => ?_⟩
  obtain ⟨i, hi, e⟩ := List.getElem_of_mem hc
  rw [mt_len] at hi
  have g := mt_get (r := a) (o := b) (i := i) (by omega) (by omega)
  rw [List.getElem?_eq_getElem (by rw [mt_len]; exact hi), e] at g
  rw [Option.some.inj g]
  split
  · exact hb.2 _ (List.getElem_mem _)
  · exact ha.2 _ (List.getElem_mem _)
theorem mt_iff {w : Nat} {a b l : Tx} (ha : Row w a) (hb : Row w b) (hc : ¬ Cl a b) : Hold (mt a b) l ↔ Hold a l ∧ Hold b l := by
  constructor
  · intro h
    refine ⟨fun i x y e1 e2 => ?_, mt_hold ha hb hc h⟩
    have hi := (List.getElem?_eq_some_iff.mp e1).1
    have g := mt_get (o := b) hi (by rw [hb.1, ← ha.1]; exact hi)
    by_cases hz : a[i] = 45
    · rw [List.getElem?_eq_getElem hi] at e1
      exact .inl (by rw [← Option.some.inj e1]; exact hz)
    · rw [if_neg hz] at g
      rw [List.getElem?_eq_getElem hi] at e1
      rw [← Option.some.inj e1]
      exact h i _ _ g e2
  · rintro ⟨h1, h2⟩ i x y e1 e2
    have hi := (List.getElem?_eq_some_iff.mp e1).1
    rw [mt_len] at hi
    have g := mt_get (r := a) (o := b) (i := i) (by omega) (by omega)
    rw [e1] at g
    rw [Option.some.inj g]
    split
    · exact h2 i _ _ (List.getElem?_eq_getElem (by omega)) e2
    · exact h1 i _ _ (List.getElem?_eq_getElem (by omega)) e2
theorem mt_tell {w : Nat} {a b : Tx} (ha : Row w a) (hb : Row w b) (i x : Nat) (h : (mt a b)[i]? = some x) (n : x ≠ 45) : (∃ y : Nat, a[i]? = some y ∧ y ≠ 45) ∨ ∃ y : Nat, b[i]? = some y ∧ y ≠ 45 := by
  have hi := (List.getElem?_eq_some_iff.mp h).1
  rw [mt_len] at hi
  have g := mt_get (r := a) (o := b) (i := i) (by omega) (by omega)
  rw [h] at g
  by_cases hz : a[i]'(by omega) = 45
  · rw [if_pos hz] at g
    exact .inr ⟨_, List.getElem?_eq_getElem (by omega), by rw [← Option.some.inj g]; exact n⟩
  · exact .inl ⟨_, List.getElem?_eq_getElem (by omega), hz⟩
/-- a row that tells some places alone, and a choice there that fits it -/
theorem hold_of_fit {w : Nat} {ps : List Nat} (pn : ps.Nodup) (pw : ∀ p ∈ ps, p < w) {r c b : Tx} (ht : ∀ i x : Nat, r[i]? = some x → x ≠ 45 → i ∈ ps) (hc : Ltr ps.length c) (hb : b.length = w) (h : ¬ Cl (atS ps r) c) : Hold r (spreadL c ps b) := fun j a x e1 e2 => by
  by_cases h1 : a = 45
  · exact .inl h1
  · have hm := ht j a e1 h1
    obtain ⟨i, hi, ei⟩ := List.getElem_of_mem hm
    have ei' : ps[i]? = some j := by rw [List.getElem?_eq_getElem hi, ei]
    have ec := List.getElem?_eq_getElem (l := c) (i := i) (by rw [hc.1]; exact hi)
    have := spread_get (b := b) pn (fun p h => by rw [hb]; exact pw p h) ei' ec
    rw [this] at e2
    have eb := Option.some.inj e2
    have hbt := hc.2 _ (List.mem_of_getElem? ec)
    by_cases h2 : a = x
    · exact .inr h2
    · exact absurd ⟨i, a, _, by rw [atS_get ei', getD_of e1], ec, h1, by rcases hbt with z | z <;> omega, fun z => h2 (z.trans eb)⟩ h
/-- a part with the number of its rule -/
def sh (p : Tx × Nat) : D := .tuple [tx p.1, .int (p.2 : Int)]
@[simp] theorem imm_sh (p : Tx × Nat) : imm (sh p) = true := by simp [sh]
@[simp] theorem imms_sh (l : List (Tx × Nat)) : imms (l.map sh) = true := by
  induction l with
  | nil => simp
  | cons a l ih => simp [ih]
@[simp] theorem ans_shs (b m : Bool) (l : List (Tx × Nat)) : ans b (.ow m (.list (l.map sh))) = .ok (.ow false (.list (l.map sh))) := ans_imms (imms_sh l)
structure Shr (w : Nat) (ps : List Nat) (rs : List Ru) (row : Tx) (fd : List (Tx × Nat)) : Prop where
  pcs : Pcs w ps (Hold row) (fd.map (·.1))
  num : ∀ f ∈ fd, ∀ l, Ltr w l → Hold f.1 l → firstOf (fun r => Hold r.1 l) rs = f.2
theorem pcs_snoc {w : Nat} {ps : List Nat} {S S' : Tx → Prop} {rs : List Tx} {r : Tx} (P : Pcs w ps S rs) (hr : Row w r) (ht : ∀ i x : Nat, r[i]? = some x → x ≠ 45 → i ∈ ps) (hd : ∀ l, Ltr w l → Hold r l → ¬ S l) (hS : ∀ l, Ltr w l → (S' l ↔ S l ∨ Hold r l)) : Pcs w ps S' (rs ++ [r]) := by
  refine ⟨fun a ha => ?_, fun a ha => ?_, ?_, fun l hl => ?_⟩
  · rcases List.mem_append.mp ha with ha | ha
    · exact P.row a ha
    · rw [List.mem_singleton.mp ha]; exact hr
  · rcases List.mem_append.mp ha with ha | ha
    · exact P.tell a ha
    · rw [List.mem_singleton.mp ha]; exact ht
  · refine List.pairwise_append.mpr ⟨P.apart, List.pairwise_singleton _ _, fun a ha b hb => ?_⟩
    rw [List.mem_singleton.mp hb]
    refine Classical.byContradiction fun hn => ?_
    obtain ⟨l, hl, h1, h2⟩ := common hr (P.row a ha) hn
    exact hd l hl h1 ((P.cov l hl).mp ⟨a, ha, h2⟩)
  · rw [hS l hl, ← P.cov l hl]
    constructor
    · rintro ⟨a, ha, h⟩
      rcases List.mem_append.mp ha with ha | ha
      · exact .inl ⟨a, ha, h⟩
      · rw [List.mem_singleton.mp ha] at h; exact .inr h
    · rintro (⟨a, ha, h⟩ | h)
      · exact ⟨a, List.mem_append_left _ ha, h⟩
      · exact ⟨r, List.mem_append_right _ (List.mem_singleton.mpr rfl), h⟩
theorem pcs_join {w : Nat} {ps : List Nat} {S T U : Tx → Prop} {rs ts : List Tx} (P : Pcs w ps S rs) (Q : Pcs w ps T ts) (hd : ∀ l, Ltr w l → S l → ¬ T l) (hU : ∀ l, Ltr w l → (U l ↔ S l ∨ T l)) : Pcs w ps U (rs ++ ts) := by
  refine ⟨fun a ha => ?_, fun a ha => ?_, ?_, fun l hl => ?_⟩
  · exact (List.mem_append.mp ha).elim (P.row a) (Q.row a)
  · exact (List.mem_append.mp ha).elim (P.tell a) (Q.tell a)
  · refine List.pairwise_append.mpr ⟨P.apart, Q.apart, fun a ha b hb => ?_⟩
    refine Classical.byContradiction fun hn => ?_
    obtain ⟨l, hl, h1, h2⟩ := common (Q.row b hb) (P.row a ha) hn
    exact hd l hl ((P.cov l hl).mp ⟨a, ha, h2⟩) ((Q.cov l hl).mp ⟨b, hb, h1⟩)
  · rw [hU l hl, ← P.cov l hl, ← Q.cov l hl]
    constructor
    · rintro ⟨a, ha, h⟩
      rcases List.mem_append.mp ha with ha | ha
      · exact .inl ⟨a, ha, h⟩
      · exact .inr ⟨a, ha, h⟩
    · rintro (⟨a, ha, h⟩ | ⟨a, ha, h⟩)
      · exact ⟨a, List.mem_append_left _ ha, h⟩
      · exact ⟨a, List.mem_append_right _ ha, h⟩
namespace M
def ruleShares : MF := ⟨9, (.cons (.set 2 (.lst .nil) true) (.cons (.set 3 (.lst (.cons (.v 1) .nil)) false) (.cons (.for_ (.t [4, 5]) (.enum (.v 0)) (.cons (.set 6 (.lst .nil) true) (.cons (.for_ (.n 7) (.e (.v 3)) (.cons (.set 8 (.call "row_meet" (.cons (.v 7) (.cons (.ix (.v 5) (.ki 0)) .nil))) false) (.cons (.ife (.cmp .IsNot (.v 8) .kn) (.cons (.app 2 (.tup (.cons (.v 8) (.cons (.v 4) .nil)))) .nil) .nil) (.cons (.ext 6 (.call "row_less" (.cons (.v 7) (.cons (.ix (.v 5) (.ki 0)) .nil)))) .nil)))) (.frz 6 (.cons (.set 3 (.v 6) false) .nil))))) (.frz 2 (.cons (.ret (.bin .Add (.v 2) (.lc (.n 7) (.e (.v 3)) .no (.tup (.cons (.v 7) (.cons (.bi "len" (.cons (.v 0) .nil)) .nil)))))) .nil)))))⟩
theorem ruleShares_ok {Γ : FT} {n : Nat} {X : Str → Prop} {K : Rv → Prop} (hm : MeetAt Γ) (hl : LessAt Γ) {w : Nat} {ps : List Nat} (hw : w ≤ 900) (hps : ps.length ≤ 8) (rs : List Ru) (row : Tx) (hrs : ∀ r ∈ rs, Row w r.1) (hts : ∀ r ∈ rs, ∀ i x : Nat, r.1[i]? = some x → x ≠ 45 → i ∈ ps) (hrow : Row w row)
    (htr : ∀ i x : Nat, row[i]? = some x → x ≠ 45 → i ∈ ps) (q : ∀ fd : List (Tx × Nat), Shr w ps rs row fd → K (.ow false (.list (fd.map sh)))) : RS X (runF Γ n ruleShares [.list (rs.map rl), tx row]) K := by
  obtain ⟨Γ1, n1, e1⟩ := hm
  obtain ⟨Γ2, n2, hm2, e2⟩ := hl
  have p8 : 2 ^ ps.length ≤ 2 ^ 8 := Nat.pow_le_pow_right (by decide) hps
  refine rs_run ?_
  simp [ruleShares, startE, sz 1 (by decide)]
  obtain ⟨I, hI⟩ : ∃ I : Nat → List Sl → Prop, ∀ i e, I i e = ∃ (s4 s5 s6 s7 s8 : Sl) (fd : List (Tx × Nat)) (rest : List Tx) (L : D), e = [.fr true (.list (rs.map rl)), .fr false (tx row), .ow false L, .fr false (.list (rest.map tx)), s4, s5, s6, s7, s8] ∧ L = .list (fd.map sh) ∧
      Pcs w ps (fun l => Hold row l ∧ ∃ r ∈ rs.take i, Hold r.1 l) (fd.map (·.1)) ∧ (∀ f ∈ fd, ∀ l, Ltr w l → Hold f.1 l → firstOf (fun r => Hold r.1 l) rs = f.2) ∧ Pcs w ps (fun l => Hold row l ∧ ∀ r ∈ rs.take i, ¬ Hold r.1 l) rest := ⟨_, fun _ _ => rfl⟩
  refine fs_for I ?_ (fun i d e hd h => ?_) (fun e h => ?_)
  · rw [hI]
    refine ⟨_, _, _, _, _, [], [row], _, rfl, rfl, ⟨by simp, by simp, .nil, fun l _ => by simp⟩, by simp, ⟨fun r h => by rw [List.mem_singleton.mp h]; exact hrow, fun r h => by rw [List.mem_singleton.mp h]; exact htr, List.pairwise_singleton _ _, fun l _ => by simp⟩⟩
  · rw [hI] at h
    obtain ⟨s4, s5, s6, s7, s8, fd, rest, L, rfl, rfl, F, hnum, R⟩ := h
    obtain ⟨d', hd', rfl⟩ := enum_at hd
    obtain ⟨hi, rfl⟩ := map_at hd'
    have g := take_get (List.getElem?_eq_getElem hi)
    have hru := hrs _ (List.getElem_mem hi)
    have htu := hts _ (List.getElem_mem hi)
    have hnotin := fun (l : Tx) (hn : ∀ r ∈ rs.take i, ¬ Hold r.1 l) (hh : Hold rs[i].1 l) => first_at (P := fun r : Ru => Hold r.1 l) hn hi hh
    generalize rs[i] = ru at *
    have fo := R.few
    simp
    obtain ⟨J, hJ⟩ : ∃ J : Nat → List Sl → Prop, ∀ j e, J j e = ∃ (s7 s8 : Sl) (fd : List (Tx × Nat)) (lo : List Tx) (L L2 : D), e = [.fr true (.list (rs.map rl)), .fr false (tx row), .ow false L, .fr false (.list (rest.map tx)), .fr true (.int (i : Int)), .fr true (rl ru), .ow false L2, s7, s8] ∧ L = .list (fd.map sh) ∧ L2 = .list (lo.map tx) ∧
        Pcs w ps (fun l => (Hold row l ∧ ∃ r ∈ rs.take i, Hold r.1 l) ∨ ∃ p ∈ rest.take j, Hold p l ∧ Hold ru.1 l) (fd.map (·.1)) ∧ (∀ f ∈ fd, ∀ l, Ltr w l → Hold f.1 l → firstOf (fun r => Hold r.1 l) rs = f.2) ∧
        Pcs w ps (fun l => ∃ r ∈ rest.take j, Hold r l ∧ ¬ Hold ru.1 l) lo ∧ ∀ o ∈ lo, ∃ r ∈ rest.take j, Hold r o := ⟨_, fun _ _ => rfl⟩
    refine fs_for J ?_ (fun j d e' hd h => ?_) (fun e' h => ?_)
    · rw [hJ]
      exact ⟨_, _, fd, [], _, _, rfl, rfl, rfl, F.iff fun l _ => by simp, hnum, pcs_nil (row := ru.1), by simp⟩
    · rw [hJ] at h
      obtain ⟨s7, s8, fd, lo, L, L2, rfl, rfl, rfl, F, hnum, O, hin⟩ := h
      obtain ⟨hj, rfl⟩ := map_at hd
      have gj := take_get (List.getElem?_eq_getElem hj)
      have hmem := List.getElem_mem hj
      have hap : ∀ r ∈ rest.take j, Cl rest[j] r := fun r hr' => by
        obtain ⟨k, hk, rfl⟩ := List.getElem_of_mem hr'
        rw [List.length_take] at hk
        rw [List.getElem_take]
        exact List.pairwise_iff_getElem.mp R.apart k j (by omega) hj (by omega)
      have hp := R.row _ hmem
      have htp := R.tell _ hmem
      have hset := fun (l : Tx) (hl : Ltr w l) (hh : Hold rest[j] l) => (R.cov l hl).mp ⟨_, hmem, hh⟩
      generalize rest[j] = p at *
      have fl := O.few
      have ff := F.few
      rw [List.length_map] at ff
      have few : fd.length < sizeLine := slt (by omega)
      have fin : ∀ (fd' : List (Tx × Nat)) (fs : List Tx) (z : Int) (s8 : Sl), M.Apart w p ru.1 fs z → Pcs w ps (fun l => (Hold row l ∧ ∃ r ∈ rs.take i, Hold r.1 l) ∨ ∃ p ∈ rest.take (j + 1), Hold p l ∧ Hold ru.1 l) (fd'.map (·.1)) → (∀ f ∈ fd', ∀ l, Ltr w l → Hold f.1 l → firstOf (fun r => Hold r.1 l) rs = f.2) →
          lo.length + fs.length ≤ sizeLine ∧ J (j + 1) [.fr true (.list (rs.map rl)), .fr false (tx row), .ow false (.list (fd'.map sh)), .fr false (.list (rest.map tx)), .fr true (.int (i : Int)), .fr true (rl ru), .ow false (.list (lo.map tx ++ fs.map tx)), .fr false (tx p), s8] := fun fd' fs z s8 A F' hnum' => by
        refine ⟨sz _ (by have := A.few; omega), ?_⟩
        rw [hJ]
        obtain ⟨a1, a2⟩ := pcs_step O hin hru htu (fun r hr' => R.row r (List.mem_of_mem_take hr')) hp htp hap A
        exact ⟨_, _, fd', lo ++ fs, _, _, rfl, rfl, by simp, F', hnum', by rw [gj]; exact a1, by rw [gj]; exact a2⟩
      simp [rl0, e_call e1, e_call e2]
      refine meetR_ok (Γ := Γ1) p ru.1 (by have := hp.1; omega) (fun hc => ?_) (fun hc => ?_)
      · simp [rl0, e_call e1, e_call e2]
        have F' : Pcs w ps (fun l => (Hold row l ∧ ∃ r ∈ rs.take i, Hold r.1 l) ∨ ∃ p ∈ rest.take (j + 1), Hold p l ∧ Hold ru.1 l) (fd.map (·.1)) := F.iff fun l hl => by
          rw [gj]
          constructor
          · rintro (h | ⟨a, ha, h⟩)
            · exact .inl h
            · exact .inr ⟨a, List.mem_append_left _ ha, h⟩
          · rintro (h | ⟨a, ha, h1, h2⟩)
            · exact .inl h
            · rcases List.mem_append.mp ha with ha | ha
              · exact .inr ⟨a, ha, h1, h2⟩
              · rw [List.mem_singleton.mp ha] at h1
                exact absurd h2 (cl_no hp hru hl hc h1)
        refine less_ok (Γ := Γ2) hm2 p ru.1 hp hru (by omega) (fun _ fs A => ?_) (fun hnc fs A => absurd hc hnc)
        simp
        exact fin fd fs _ _ A F' hnum
      · simp [rl0, e_call e1, e_call e2, sz 2 (by decide), few]
        have F' : Pcs w ps (fun l => (Hold row l ∧ ∃ r ∈ rs.take i, Hold r.1 l) ∨ ∃ p ∈ rest.take (j + 1), Hold p l ∧ Hold ru.1 l) ((fd ++ [(mt p ru.1, i)]).map (·.1)) := by
          rw [List.map_append]
          refine pcs_snoc F (mt_row hp hru) (fun k x e n => ?_) (fun l hl h => ?_) fun l hl => ?_
          · rcases mt_tell hp hru k x e n with ⟨y, e', n'⟩ | ⟨y, e', n'⟩
            · exact htp k y e' n'
            · exact htu k y e' n'
          · obtain ⟨h1, h2⟩ := (mt_iff hp hru hc).mp h
            rintro (⟨_, r, hr, h3⟩ | ⟨a, ha, h3, _⟩)
            · exact (hset l hl h1).2 r hr h3
            · exact cl_no hp (R.row a (List.mem_of_mem_take ha)) hl (hap a ha) h1 h3
          · show ((Hold row l ∧ ∃ r ∈ rs.take i, Hold r.1 l) ∨ ∃ p ∈ rest.take (j + 1), Hold p l ∧ Hold ru.1 l) ↔ ((Hold row l ∧ ∃ r ∈ rs.take i, Hold r.1 l) ∨ ∃ p ∈ rest.take j, Hold p l ∧ Hold ru.1 l) ∨ Hold (mt p ru.1) l
            rw [gj, mt_iff hp hru hc]
            constructor
            · rintro (h | ⟨a, ha, h1, h2⟩)
              · exact .inl (.inl h)
              · rcases List.mem_append.mp ha with ha | ha
                · exact .inl (.inr ⟨a, ha, h1, h2⟩)
                · rw [List.mem_singleton.mp ha] at h1
                  exact .inr ⟨h1, h2⟩
            · rintro ((h | ⟨a, ha, h1, h2⟩) | ⟨h1, h2⟩)
              · exact .inl h
              · exact .inr ⟨a, List.mem_append_left _ ha, h1, h2⟩
              · exact .inr ⟨p, List.mem_append_right _ (List.mem_singleton.mpr rfl), h1, h2⟩
        have hnum' : ∀ f ∈ fd ++ [(mt p ru.1, i)], ∀ l, Ltr w l → Hold f.1 l → firstOf (fun r => Hold r.1 l) rs = f.2 := fun f hf l hl hh => by
          rcases List.mem_append.mp hf with hf | hf
          · exact hnum f hf l hl hh
          · rw [List.mem_singleton.mp hf] at hh ⊢
            obtain ⟨h1, h2⟩ := (mt_iff hp hru hc).mp hh
            exact hnotin l (hset l hl h1).2 h2
        have ea : fd.map sh ++ [PyData.tuple [tx (mt p ru.1), .int (i : Int)]] = (fd ++ [(mt p ru.1, i)]).map sh := by simp [sh]
        rw [ea]
        refine less_ok (Γ := Γ2) hm2 p ru.1 hp hru (by omega) (fun hc' fs A => absurd hc' hc) (fun hnc fs A => ?_)
        simp [-List.map_append]
        exact fin _ fs _ _ A F' hnum'
    · rw [hJ] at h
      obtain ⟨s7, s8, fd, lo, L, L2, rfl, rfl, rfl, F, hnum, O, hin⟩ := h
      rw [List.length_map, List.take_of_length_le (Nat.le_refl _)] at F O
      simp
      rw [hI]
      refine ⟨_, _, _, _, _, fd, lo, _, rfl, rfl, F.iff fun l hl => ?_, hnum, O.iff fun l hl => ?_⟩
      · rw [g]
        constructor
        · rintro (⟨h0, r, hr, h⟩ | ⟨p, hp, h1, h2⟩)
          · exact ⟨h0, r, List.mem_append_left _ hr, h⟩
          · exact ⟨((R.cov l hl).mp ⟨p, hp, h1⟩).1, ru, List.mem_append_right _ (List.mem_singleton.mpr rfl), h2⟩
        · rintro ⟨h0, r, hr, h⟩
          by_cases hz : ∃ r ∈ rs.take i, Hold r.1 l
          · exact .inl ⟨h0, hz⟩
          · have er : r = ru := by
              rcases List.mem_append.mp hr with h' | h'
              · exact absurd ⟨r, h', h⟩ hz
              · exact List.mem_singleton.mp h'
            rw [er] at h
            obtain ⟨p, hp, h1⟩ := (R.cov l hl).mpr ⟨h0, fun r hr h => hz ⟨r, hr, h⟩⟩
            exact .inr ⟨p, hp, h1, h⟩
      · rw [g]
        constructor
        · rintro ⟨r, hr', h1, h2⟩
          obtain ⟨z1, z2⟩ := (R.cov l hl).mp ⟨r, hr', h1⟩
          refine ⟨z1, fun r' hr'' => ?_⟩
          rcases List.mem_append.mp hr'' with h | h
          · exact z2 r' h
          · rw [List.mem_singleton.mp h]; exact h2
        · rintro ⟨z1, z2⟩
          obtain ⟨r, hr', h1⟩ := (R.cov l hl).mpr ⟨z1, fun r' hr'' => z2 r' (List.mem_append_left _ hr'')⟩
          exact ⟨r, hr', h1, z2 ru (List.mem_append_right _ (List.mem_singleton.mpr rfl))⟩
  · rw [hI] at h
    obtain ⟨s4, s5, s6, s7, s8, fd, rest, L, rfl, rfl, F, hnum, R⟩ := h
    have e0 : rs.take (enumD 0 (rs.map rl)).length = rs := List.take_of_length_le (by rw [enumD_length, List.length_map]; exact Nat.le_refl _)
    rw [e0] at F R
    have fo := R.few
    have ff := F.few
    rw [List.length_map] at ff
    simp
    refine rs_lc (fun i m L => m = false ∧ L = ((rest.map fun p => (p, rs.length)).take i).map sh) ⟨rfl, rfl⟩ (fun i d m L hd' h => ?_) (fun m L h => ?_)
    · obtain ⟨rfl, rfl⟩ := h
      obtain ⟨hi, rfl⟩ := map_at hd'
      simp [lcT, sz 2 (by decide)]
      rw [take_get (l := rest.map (sh ∘ fun p => (p, rs.length))) (a := sh (rest[i], rs.length)) (by rw [List.getElem?_map, List.getElem?_eq_getElem hi]; rfl)]
      rfl
    · obtain ⟨rfl, rfl⟩ := h
      rw [List.length_map, List.take_of_length_le (by simp)]
      refine ⟨sz _ (by omega), ?_⟩
      have al := add_list (a := fd.map sh) (b := (rest.map fun p => (p, rs.length)).map sh) (sz _ (by simp; omega))
      rw [← List.map_append] at al
      dsimp only
      rw [al]
      simp [-List.map_append, -List.map_map]
      refine q _ ⟨?_, fun f hf l hl h => ?_⟩
      · rw [List.map_append, List.map_map]
        have em : rest.map ((fun x : Tx × Nat => x.1) ∘ fun p => (p, rs.length)) = rest := by
          show rest.map (fun p => p) = rest
          simp
        rw [em]
        refine pcs_join F R (fun l hl h1 h2 => ?_) fun l hl => ?_
        · obtain ⟨_, r, hr, h⟩ := h1
          exact h2.2 r hr h
        · constructor
          · intro h
            by_cases hz : ∃ r ∈ rs, Hold r.1 l
            · exact .inl ⟨h, hz⟩
            · exact .inr ⟨h, fun r hr h' => hz ⟨r, hr, h'⟩⟩
          · rintro (h | h)
            · exact h.1
            · exact h.1
      · rcases List.mem_append.mp hf with hf | hf
        · exact hnum f hf l hl h
        · obtain ⟨p, hp, rfl⟩ := List.mem_map.mp hf
          exact first_no (P := fun r : Ru => Hold r.1 l) ((R.cov l hl).mp ⟨p, hp, h⟩).2
def places5 : MF := ⟨4, (.cons (.ife (.cmp .LtE (.v 1) (.ki 6)) (.cons (.ret (.lr (.so (.v 1)) .no)) .nil) .nil) (.cons (.set 2 (.lst .nil) true) (.cons (.for_ (.n 3) (.e (.call "_law_stream" (.cons (.v 0) (.cons (.ki 5) .nil)))) (.cons (.ife (.cmp .NotIn (.bin .Mod (.v 3) (.v 1)) (.v 2)) (.cons (.app 2 (.bin .Mod (.v 3) (.v 1))) .nil) .nil) .nil)) (.frz 2 (.cons (.ret (.bi "sorted" (.cons (.v 2) .nil))) .nil)))))⟩
theorem places5_ok {Γ : FT} {n : Nat} {X : Str → Prop} {K : Rv → Prop} (hs : StreamAt Γ) (c : Int) (w : Nat) (w1 : 1 ≤ w) (w2 : w ≤ 48) (q : ∀ ps : List Nat, ps.Nodup → (∀ p ∈ ps, p < w) → 1 ≤ ps.length → ps.length ≤ 8 → K (.ow false (.list (ps.map fun (p : Nat) => .int (p : Int))))) : RS X (runF Γ n places5 [.int c, .int (w : Int)]) K := by
  obtain ⟨Γ', n', es⟩ := hs
  refine rs_run ?_
  simp [-fs_if, places5, startE, e_lr1]
  rw [fs_if]
  refine ⟨fun hw => ?_, fun hw => ?_⟩
  · have hw : w ≤ 6 := by
      have := of_decide_eq_true hw
      omega
    rw [if_pos (by omega), fs_ret]
    rw [rng_nat]
    exact q (List.range w) List.nodup_range (fun p hp => List.mem_range.mp hp) (by simpa using w1) (by simp; omega)
  · have wz : (0 : Int) < (w : Int) := by omega
    simp [e_call es]
    refine stream_okN c 5 (by omega) fun l hl hp => ?_
    simp
    obtain ⟨I, hI⟩ : ∃ I : Nat → List Sl → Prop, ∀ i e, I i e = ∃ (s : Sl) (ks : List Int) (L : D), e = [.fr false (.int c), .fr false (.int (w : Int)), .ow false L, s] ∧ L = .list (ks.map .int) ∧ ks.Nodup ∧ (∀ k ∈ ks, 0 ≤ k ∧ k < w) ∧ ks.length ≤ i ∧ (1 ≤ i → 1 ≤ ks.length) := ⟨_, fun _ _ => rfl⟩
    refine fs_for I ?_ (fun i d e hd h => ?_) (fun e h => ?_)
    · rw [hI]
      exact ⟨_, [], _, rfl, rfl, List.nodup_nil, by simp, Nat.le_refl _, fun h => absurd h (by decide)⟩
    · rw [hI] at h
      obtain ⟨s, ks, L, rfl, rfl, hn, hb, hk, hk1⟩ := h
      obtain ⟨hi, rfl⟩ := map_at hd
      generalize l[i] = x
      have b1 := Int.emod_nonneg x (show (w : Int) ≠ 0 by omega)
      have b2 := Int.emod_lt_of_pos x wz
      have zz : ks.length < sizeLine := slt (by omega)
      simp [En.mod_int wz, in_ints, zz]
      refine ⟨fun hx => ?_, fun hx => ?_⟩ <;> rw [hI]
      · refine ⟨_, ks ++ [x % w], _, rfl, by simp, ?_, fun k hk' => ?_, by simp; omega, fun _ => by simp⟩
        · exact List.nodup_append.mpr ⟨hn, by simp, fun a ha b hb' => by rw [List.mem_singleton.mp hb']; exact fun z => hx (z ▸ ha)⟩
        · rcases List.mem_append.mp hk' with hk' | hk'
          · exact hb k hk'
          · rw [List.mem_singleton.mp hk']
            exact ⟨b1, b2⟩
      · exact ⟨_, ks, _, rfl, rfl, hn, hb, by omega, fun _ => List.length_pos_of_mem hx⟩
    · rw [hI] at h
      obtain ⟨s, ks, L, rfl, rfl, hn, hb, hk, hk1⟩ := h
      rw [List.length_map, hl] at hk hk1
      simp [sorted_ints (ns := ks) (by omega)]
      have pm : (sortI ks).Perm ks := List.mergeSort_perm _ _
      have e : (sortI ks).map PyData.int = ((sortI ks).map Int.toNat).map fun (p : Nat) => .int (p : Int) := by
        rw [List.map_map]
        apply List.map_congr_left
        intro k hk'
        have := hb k (pm.mem_iff.mp hk')
        show PyData.int k = .int ((k.toNat : Nat) : Int)
        rw [Int.toNat_of_nonneg this.1]
      rw [e]
      refine q _ ?_ (fun p hp' => ?_) (by rw [List.length_map, pm.length_eq]; omega) (by rw [List.length_map, pm.length_eq]; omega)
      · have : ((sortI ks).map Int.toNat).Nodup := by
          refine List.pairwise_map.mpr ?_
          refine List.Pairwise.imp_of_mem ?_ (pm.nodup_iff.mpr hn)
          intro a b ha hb' hne z
          have h1 := hb a (pm.mem_iff.mp ha)
          have h2 := hb b (pm.mem_iff.mp hb')
          exact hne (by omega)
        exact this
      · obtain ⟨k, hk', rfl⟩ := List.mem_map.mp hp'
        have := hb k (pm.mem_iff.mp hk')
        omega
end M
end En
set_option Elab.async false
set_option linter.all false
set_option maxRecDepth 100000
set_option maxHeartbeats 4000000
namespace En
open PySem L2

@[simp] theorem mk_sh (m : Bool) (p : Tx × Nat) : mk m false (sh p) = .fr m (sh p) := mk_tup _ _
theorem sh0 (p : Tx × Nat) : semIx (sh p) (.int 0) = some (tx p.1) := ix_tup (i := 0) rfl
theorem sh1 (p : Tx × Nat) : semIx (sh p) (.int 1) = some (.int (p.2 : Int)) := ix_tup (i := 1) rfl
@[simp] theorem isi_tup_sh (p : Tx × Nat) : semIsi (sh p) "tuple" = some true := isi_tup_t _
@[simp] theorem len_sh (p : Tx × Nat) : s_len [sh p] = some (false, .int 2) := (rfl)
namespace M
def WholeAt (Γ : FT) : Prop := ∃ Γ' n, Γ "_law_whole" = some (1, fun ds => runF Γ' n whole ds)
def shareFits : MF := ⟨9, (.cons (.unp [4, 5] (.v 3)) (.cons (.ife (.bop false (.cons (.not_ (.isi (.v 0) "tuple")) (.cons (.cmp .NotEq (.bi "len" (.cons (.v 0) .nil)) (.ki 2)) (.cons (.not_ (.call "_law_is_row" (.cons (.ix (.v 0) (.ki 0)) (.cons (.v 4) .nil)))) .nil)))) (.cons (.ret (.kb false)) .nil) .nil) (.cons (.ife (.not_ (.call "_law_whole" (.cons (.ix (.v 0) (.ki 1)) .nil))) (.cons (.ret (.kb false)) .nil) .nil) (.cons (.set 6 (.mt (.ks "") "join" (.cons (.lc (.n 8) (.e (.v 5)) .no (.ix (.ix (.v 0) (.ki 0)) (.v 8))) .nil)) false) (.cons (.for_ (.n 7) (.e (.call "_law_choices" (.cons (.bi "len" (.cons (.v 5) .nil)) .nil))) (.cons (.ife (.call "_law_fits" (.cons (.v 6) (.cons (.v 7) .nil))) (.cons (.ife (.bop false (.cons (.not_ (.call "_law_fits" (.cons (.v 2) (.cons (.v 7) .nil)))) (.cons (.cmp .NotEq (.call "_law_first" (.cons (.v 1) (.cons (.v 7) .nil))) (.ix (.v 0) (.ki 1))) .nil))) (.cons (.ret (.kb false)) .nil) .nil) .nil) .nil) .nil)) (.cons (.ret (.kb true)) .nil))))))⟩
theorem shareFits_ok {Γ : FT} {n : Nat} {X : Str → Prop} {K : Rv → Prop} (hr : IsRowAt Γ) (hc : ChoicesAt Γ) (hf : FitsAt Γ) (hfi : FirstAt Γ) (hwh : WholeAt Γ) {w : Nat} {ps : List Nat} (hw : w ≤ 900) (hps : ps.length ≤ 8) (pw : ∀ p ∈ ps, p < w) (f : Tx × Nat) (rs : List Ru) (row : Tx) (hrl : rs.length ≤ 1000) (hfr : Row w f.1)
    (good : ∀ c, Ltr ps.length c → ¬ Cl (atS ps f.1) c → ¬ Cl row c ∧ firstOf (fun r => ¬ Cl r.1 c) rs = f.2) (q : K (.fr false (.bool true))) : RS X (runF Γ n shareFits [sh f, .list (rs.map rl), tx row, .tuple [.int (w : Int), .list (ps.map fun (p : Nat) => .int (p : Int))]]) K := by
  obtain ⟨Γ1, n1, e1⟩ := hr
  obtain ⟨Γ2, n2, e2⟩ := hc
  obtain ⟨Γ3, n3, e3⟩ := hf
  obtain ⟨Γ4, n4, hf4, e4⟩ := hfi
  obtain ⟨Γ5, n5, e5⟩ := hwh
  have p8 : 2 ^ ps.length ≤ 2 ^ 8 := Nat.pow_le_pow_right (by decide) hps
  have hl' := hfr.1
  have hsz : f.1.length ≤ sizeLine := sz _ (by omega)
  refine rs_run ?_
  simp [shareFits, startE, sh0, sh1, e_call e1]
  refine isRow_ok (Γ := Γ1) _ hfr (by omega) ?_
  simp [sh0, sh1, e_call e5]
  refine whole_ok (Γ := Γ5) _ ?_
  simp [sh0, sh1]
  refine rs_lc (fun i m L => m = false ∧ L = ((atS ps f.1).take i).map fun c => tx [c]) ⟨rfl, rfl⟩ (fun j d m L hd' h => ?_) (fun m L h => ?_)
  · obtain ⟨rfl, rfl⟩ := h
    obtain ⟨hj, rfl⟩ := map_at hd'
    have hlt : ps[j] < f.1.length := by rw [hl']; exact pw _ (List.getElem_mem hj)
    have er := List.getElem?_eq_getElem hlt
    have g1 := ix_tx hsz er
    have g := take_get (atS_get (l := f.1) (List.getElem?_eq_getElem hj))
    rw [getD_of er] at g
    simp [lcT, sh0, g1]
    rw [← List.map_take, ← List.map_take, g, List.map_append]
    rfl
  · obtain ⟨rfl, rfl⟩ := h
    rw [List.length_map, List.take_of_length_le (by rw [atS_len]; exact Nat.le_refl _)]
    refine ⟨sz _ (by omega), ?_⟩
    simp [M.join_sg (l := atS ps f.1) (by rw [atS_len]; omega), e_call e2]
    refine choices_ok (Γ := Γ2) ps.length hps ?_
    simp
    obtain ⟨I, hI⟩ : ∃ I : Nat → List Sl → Prop, ∀ i e, I i e = ∃ (m0 m1 m2 m3 m4 m5 : Bool) (s7 : Sl), e = [.fr m0 (sh f), .fr m1 (.list (rs.map rl)), .fr m2 (tx row), .fr m3 (.tuple [.int (w : Int), .list (ps.map fun (p : Nat) => .int (p : Int))]), .fr m4 (.int (w : Int)), .fr m5 (.list (ps.map fun (p : Nat) => .int (p : Int))), .fr false (tx (atS ps f.1)), s7, .no] := ⟨_, fun _ _ => rfl⟩
    refine fs_for I ?_ (fun i d e hd h => ?_) (fun e h => ?_)
    · rw [hI]
      exact ⟨_, _, _, _, _, _, _, rfl⟩
    · rw [hI] at h
      obtain ⟨m0, m1, m2, m3, m4, m5, s7, rfl⟩ := h
      obtain ⟨hi, rfl⟩ := map_at hd
      have hcl := choices_ltr (List.getElem_mem hi)
      generalize (choicesL ps.length)[i] = c at *
      have nx : ∀ s7, I (i + 1) [.fr m0 (sh f), .fr m1 (.list (rs.map rl)), .fr m2 (tx row), .fr m3 (.tuple [.int (w : Int), .list (ps.map fun (p : Nat) => .int (p : Int))]), .fr m4 (.int (w : Int)), .fr m5 (.list (ps.map fun (p : Nat) => .int (p : Int))), .fr false (tx (atS ps f.1)), s7, .no] := fun s7 => by
        rw [hI]
        exact ⟨_, _, _, _, _, _, _, rfl⟩
      simp [e_call e3]
      refine fits_ok (Γ := Γ3) _ _ fun t ht => ?_
      cases t with
      | false =>
        simp
        exact nx _
      | true =>
        obtain ⟨g1, g2⟩ := good c hcl (ht.mp rfl)
        simp [e_call e3]
        refine fits_ok (Γ := Γ3) _ _ fun t ht => ?_
        have : t = true := ht.mpr g1
        subst this
        simp [e_call e4, sh1]
        refine lawFirst_ok (Γ := Γ4) hf4 rs c hrl ?_
        rw [g2]
        simp [sh1]
        exact nx _
    · rw [hI] at h
      obtain ⟨m0, m1, m2, m3, m4, m5, s7, rfl⟩ := h
      try simp
      exact q
end M
end En
set_option Elab.async false
set_option linter.all false
set_option maxRecDepth 100000
set_option maxHeartbeats 4000000
namespace En
open PySem L2

namespace M
def rowSize : MF := ⟨3, (.cons (.set 1 (.ki 1) false) (.cons (.for_ (.n 2) (.e (.v 0)) (.cons (.ife (.cmp .Eq (.v 2) (.ks "-")) (.cons (.set 1 (.bin .Mult (.v 1) (.ki 2)) false) .nil) .nil) .nil)) (.cons (.ret (.v 1)) .nil)))⟩
theorem rowSize_ok {Γ : FT} {n : Nat} {X : Str → Prop} {K : Rv → Prop} (r : Tx) (hr : r.length ≤ 1000) (q : K (.fr false (.int (sizeI r)))) : RS X (runF Γ n rowSize [tx r]) K := by
  refine rs_run ?_
  simp [rowSize, startE]
  obtain ⟨I, hI⟩ : ∃ I : Nat → List Sl → Prop, ∀ i e, I i e = ∃ (s : Sl), e = [.fr false (tx r), .fr false (.int ((2 : Int) ^ ((r.take i).count 45))), s] := ⟨_, fun _ _ => rfl⟩
  refine fs_for I ?_ (fun i d e hd' h => ?_) (fun e h => ?_)
  · rw [hI]
    exact ⟨_, rfl⟩
  · rw [hI] at h
    obtain ⟨s, rfl⟩ := h
    obtain ⟨hi, rfl⟩ := map_at hd'
    have g := take_get (List.getElem?_eq_getElem hi)
    simp [mul_r (j := 2) (by omega)]
    refine ⟨fun h => ?_, fun h => ?_⟩ <;> rw [hI]
    · have e1 : (r.take (i + 1)).count 45 = (r.take i).count 45 + 1 := by
        rw [g, List.count_append, h]
        rfl
      exact ⟨_, by rw [e1, Int.pow_succ]⟩
    · have e1 : (r.take (i + 1)).count 45 = (r.take i).count 45 := by
        rw [g, List.count_append]
        have : List.count 45 [r[i]] = 0 := by rw [List.count_eq_zero]; simpa using fun z => h z.symm
        rw [this]
        rfl
      exact ⟨_, by rw [e1]⟩
  · rw [hI] at h
    obtain ⟨s, rfl⟩ := h
    rw [List.take_of_length_le (by simp)]
    simp
    exact q
def heapSize : MF := ⟨2, (.cons (.ret (.bi "sum" (.cons (.lc (.n 1) (.e (.call "heap_apart" (.cons (.v 0) .nil))) .no (.call "row_size" (.cons (.v 1) .nil))) .nil))) .nil)⟩
def HeapApartAt (Γ : FT) : Prop := ∃ Γ' n, BeyondAt Γ' ∧ Γ "heap_apart" = some (1, fun ds => runF Γ' n heapApart ds)
def RowSizeAt (Γ : FT) : Prop := ∃ Γ' n, Γ "row_size" = some (1, fun ds => runF Γ' n rowSize ds)
theorem heapSize_ok {Γ : FT} {n : Nat} {X : Str → Prop} {K : Rv → Prop} (ha : HeapApartAt Γ) (hs : RowSizeAt Γ) {w : Nat} {ps : List Nat} (hw : w ≤ 900) (hps : ps.length ≤ 8) (rows : List Tx) (hfew : rows.length ≤ 1000) (hrow : ∀ r ∈ rows, Row w r)
    (htell : ∀ r ∈ rows, ∀ i x : Nat, r[i]? = some x → x ≠ 45 → i ∈ ps) (q : K (.fr false (.int (cnt w (fun l => ∃ r ∈ rows, Hold r l) : Nat)))) : RS X (runF Γ n heapSize [.list (rows.map tx)]) K := by
  obtain ⟨Γ1, n1, hb, e1⟩ := ha
  obtain ⟨Γ2, n2, e2⟩ := hs
  have p8 : 2 ^ ps.length ≤ 2 ^ 8 := Nat.pow_le_pow_right (by decide) hps
  refine rs_run ?_
  simp [heapSize, startE, e_call e1]
  refine heapApart_ok (Γ := Γ1) hb hw hps rows hfew hrow htell fun m out P => ?_
  have fo := P.few
  simp
  refine rs_lc (fun i m L => m = false ∧ L = ((out.map sizeI).take i).map .int) ⟨rfl, rfl⟩ (fun i d m L hd' h => ?_) (fun m L h => ?_)
  · obtain ⟨rfl, rfl⟩ := h
    obtain ⟨hi, rfl⟩ := map_at hd'
    have m1 := (P.row out[i] (List.getElem_mem hi)).1
    simp [lcT, e_call e2]
    refine rowSize_ok (Γ := Γ2) out[i] (by omega) ?_
    simp
    rw [take_get (l := out.map (PyData.int ∘ sizeI)) (a := .int (sizeI out[i])) (by rw [List.getElem?_map, List.getElem?_eq_getElem hi]; rfl)]
  · obtain ⟨rfl, rfl⟩ := h
    have e : (out.map sizeI).take (out.map tx).length = out.map sizeI := List.take_of_length_le (by simp)
    have es : (out.map sizeI).sum = (cnt w (fun l => ∃ r ∈ rows, Hold r l) : Int) := by
      rw [sum_cnt P.row P.apart]
      congr 1
      exact cnt_congr fun l hl => P.cov l hl
    rw [e, sum_ints, es]
    simp
    exact ⟨sz _ (by omega), q⟩
end M
/-- how many letters lie in a heap -/
theorem heap_cnt {w : Nat} {ps : List Nat} (pn : ps.Nodup) (pw : ∀ p ∈ ps, p < w) {ss : List Tx} (hs : ∀ s ∈ ss, Row ps.length s) {hp : List Tx} (hh : ∀ r, r ∈ hp ↔ r ∈ ss.map fun s => spreadL s ps (List.replicate w 45)) :
    (cnt w (fun l => ∃ r ∈ hp, Hold r l) : Int) = ((choicesL ps.length).filter (fitsAny ss)).length * 2 ^ (w - ps.length) := by
  rw [← cnt_spread pn pw (List.Pairwise.filter _ (choices_nodup _)) fun c hc => choices_ltr (List.mem_filter.mp hc).1]
  congr 1
  refine cnt_congr fun l hl => ?_
  rw [good_in (atS_ltr pw hl), ← heap_in pn pw hs hl]
  constructor
  · rintro ⟨r, hr, h⟩
    exact ⟨r, (hh r).mp hr, h⟩
  · rintro ⟨r, hr, h⟩
    exact ⟨r, (hh r).mpr hr, h⟩
end En
set_option Elab.async false
set_option linter.all false
set_option maxRecDepth 100000
set_option maxHeartbeats 4000000
namespace En
open PySem L2

/-! ### a text cut behind some statements -/
def takeS : Nat → MSs → MSs
  | 0, _ => .nil
  | _, .nil => .nil
  | k + 1, .cons s r => .cons s (takeS k r)
  | k + 1, .frz i r => .frz i (takeS k r)
def dropS : Nat → MSs → MSs
  | 0, s => s
  | _, .nil => .nil
  | k + 1, .cons _ r => dropS k r
  | k + 1, .frz _ r => dropS k r
theorem evSs_cut {Γ : FT} {fuel : Nat} : ∀ (k : Nat) (s : MSs) (env : List Sl), evSs Γ fuel s env = (evSs Γ fuel (takeS k s) env).then fun e => evSs Γ fuel (dropS k s) e
  | 0, s, env => by simp [takeS, dropS]
  | k + 1, .nil, env => by simp [takeS, dropS]
  | k + 1, .cons s r, env => by
    simp only [takeS, dropS, ss_cons]
    cases evS Γ fuel s env <;> simp [Fl.then]
    exact evSs_cut k r _
  | k + 1, .frz i r, env => by
    simp only [takeS, dropS, ss_frz]
    cases env[i]? with
    | none => rfl
    | some x =>
      cases x with
      | ow m d => exact evSs_cut k r _
      | _ => rfl
theorem fs_at {X : Str → Prop} {B C : List Sl → Prop} {Q : Rv → Prop} {N : List Sl → Prop} {Γ : FT} {fuel : Nat} {s : MSs} {env : List Sl} (k : Nat) (M : List Sl → Prop) (h1 : FS X B C Q (evSs Γ fuel (takeS k s) env) M) (h2 : ∀ e, M e → FS X B C Q (evSs Γ fuel (dropS k s) e) N) : FS X B C Q (evSs Γ fuel s env) N := by
  rw [evSs_cut k, fs_then]
  exact fs_imp h1 h2
namespace M
def CellAt (Γ : FT) : Prop := ∃ Γ' n, Γ "_law_cell_at" = some (2, fun ds => runF Γ' n cell ds)
def RowAt (Γ : FT) : Prop := ∃ Γ' n, StreamAt Γ' ∧ Γ "_law_row" = some (3, fun ds => runF Γ' n row ds)
def NearAt (Γ : FT) : Prop := ∃ Γ' n, StreamAt Γ' ∧ Γ "_law_near" = some (3, fun ds => runF Γ' n near ds)
def pair : MF := ⟨5, (.cons (.set 2 (.call "_law_row" (.cons (.call "_law_cell_at" (.cons (.v 0) (.cons (.ki 1) .nil))) (.cons (.v 1) (.cons (.bin .Add (.ki 1) (.bin .Mod (.call "_law_cell_at" (.cons (.v 0) (.cons (.ki 2) .nil))) (.ki 4))) .nil)))) false) (.cons (.set 3 (.bin .Mod (.call "_law_cell_at" (.cons (.v 0) (.cons (.ki 3) .nil))) (.ki 5)) false) (.cons (.set 4 (.call "_law_near" (.cons (.v 2) (.cons (.call "_law_cell_at" (.cons (.v 0) (.cons (.ki 4) .nil))) (.cons (.v 3) .nil)))) false) (.cons (.ife (.cmp .Eq (.v 3) (.ki 4)) (.cons (.set 4 (.call "_law_row" (.cons (.call "_law_cell_at" (.cons (.v 0) (.cons (.ki 4) .nil))) (.cons (.v 1) (.cons (.bin .Add (.ki 1) (.bin .Mod (.call "_law_cell_at" (.cons (.v 0) (.cons (.ki 5) .nil))) (.ki 4))) .nil)))) false) .nil) .nil) (.cons (.ife (.cmp .Eq (.bin .Mod (.call "_law_cell_at" (.cons (.v 0) (.cons (.ki 6) .nil))) (.ki 2)) (.ki 1)) (.cons (.ret (.lst (.cons (.v 4) (.cons (.v 2) .nil)))) .nil) .nil) (.cons (.ret (.lst (.cons (.v 2) (.cons (.v 4) .nil)))) .nil))))))⟩
theorem pair_ok {Γ : FT} {n : Nat} {X : Str → Prop} {K : Rv → Prop} (hc : CellAt Γ) (hr : RowAt Γ) (hn : NearAt Γ) (ns : List Int) (w : Nat) (hw : w ≤ 1000) (q : ∀ a b : Tx, Row w a → Row w b → K (.ow false (.list [tx a, tx b]))) : RS X (runF Γ n pair [.list (ns.map .int), .int (w : Int)]) K := by
  obtain ⟨Γ1, n1, e1⟩ := hc
  obtain ⟨Γ2, n2, hs2, e2⟩ := hr
  obtain ⟨Γ3, n3, hs3, e3⟩ := hn
  have cl : ∀ k : Int, 0 ≤ k → runF Γ1 n1 cell [.list (ns.map .int), .int k] = .ok (.fr false (.int (cellI ns k))) := fun k h => cell_eq ns k h
  refine rs_run ?_
  simp [-fs_if, pair, startE, e_call e1, e_call e2, cl, En.mod_int]
  refine row_ok (Γ := Γ2) hs2 _ (w : Int) _ (by omega) (by omega) (by omega) fun a ha => ?_
  rw [Int.toNat_natCast] at ha
  simp [-fs_if, e_call e1, e_call e3, cl, En.mod_int]
  refine near_ok (Γ := Γ3) hs3 a _ _ ha (by omega) fun b0 hb0 => ?_
  simp [-fs_if, cl]
  refine fs_cut (fun e => ∃ b, Row w b ∧ e = [.fr true (.list (ns.map .int)), .fr false (.int (w : Int)), .fr false (tx a), .fr false (.int (cellI ns 3 % 5)), .fr false (tx b)]) (fun _ => ?_) (fun _ => ?_) (fun e h => ?_)
  · simp [e_call e1, e_call e2, cl, En.mod_int]
    refine row_ok (Γ := Γ2) hs2 _ (w : Int) _ (by omega) (by omega) (by omega) fun b hb => ?_
    rw [Int.toNat_natCast] at hb
    simp
    exact ⟨b, hb, rfl⟩
  · simp
    exact ⟨b0, hb0, rfl⟩
  obtain ⟨b, hb, rfl⟩ := h
  simp [e_call e1, cl, En.mod_int, sz 2 (by decide)]
  exact ⟨fun _ => q b a hb ha, fun _ => q a b ha hb⟩
def met : MF := ⟨4, (.cons (.set 2 (.ks "") false) (.cons (.for_ (.n 3) (.r1 (.bi "len" (.cons (.v 0) .nil))) (.cons (.ife (.cmp .Eq (.ix (.v 0) (.v 3)) (.ks "-")) (.cons (.set 2 (.bin .Add (.v 2) (.ix (.v 1) (.v 3))) false) .nil) (.cons (.ife (.bop false (.cons (.cmp .Eq (.ix (.v 1) (.v 3)) (.ks "-")) (.cons (.cmp .Eq (.ix (.v 1) (.v 3)) (.ix (.v 0) (.v 3))) .nil))) (.cons (.set 2 (.bin .Add (.v 2) (.ix (.v 0) (.v 3))) false) .nil) (.cons (.ret .kn) .nil)) .nil)) .nil)) (.cons (.ret (.v 2)) .nil)))⟩
theorem met_ok {Γ : FT} {n : Nat} {X : Str → Prop} {K : Rv → Prop} {w : Nat} (a b : Tx) (ha : a.length = w) (hb : b.length = w) (hw : w ≤ 1000) (q1 : Cl a b → K (.fr false .none)) (q2 : ¬ Cl a b → K (.fr false (tx (mt a b)))) : RS X (runF Γ n met [tx a, tx b]) K := by
  have hda : a.length ≤ sizeLine := sz _ (by omega)
  have hdb : b.length ≤ sizeLine := sz _ (by omega)
  have ml : (mt a b).length = w := by rw [mt_len, ha, hb, Nat.min_self]
  refine rs_run ?_
  simp [met, startE, len_tx hda]
  rw [rg1_le _ (by omega) (by omega)]
  simp
  obtain ⟨I, hI⟩ : ∃ I : Nat → List Sl → Prop, ∀ i e, I i e = ∃ (s : Sl), e = [.fr false (tx a), .fr false (tx b), .fr false (tx ((mt a b).take i)), s] ∧ NoCl i a b := ⟨_, fun _ _ => rfl⟩
  refine fs_for I ?_ (fun i d e hd h => ?_) (fun e h => ?_)
  · rw [hI]
    exact ⟨_, rfl, fun j hj => absurd hj (Nat.not_lt_zero j)⟩
  · rw [hI] at h
    obtain ⟨s, rfl, h⟩ := h
    obtain ⟨hi, rfl⟩ := rngD_at hd
    have a1 : i < a.length := by simpa using hi
    have a2 : i < b.length := by omega
    have g := take_get (mt_get a1 a2)
    have ia := ix_tx hda (List.getElem?_eq_getElem a1)
    have ib := ix_tx hdb (List.getElem?_eq_getElem a2)
    have ad : ∀ c : Nat, semBin .Add (tx ((mt a b).take i)) (tx [c]) = some (false, tx ((mt a b).take i ++ [c])) := fun c => add_tx (sz _ (by rw [List.length_take]; simp; omega))
    have nx : ¬ (a[i] ≠ 45 ∧ b[i] ≠ 45 ∧ a[i] ≠ b[i]) → ∀ s, I (i + 1) [.fr false (tx a), .fr false (tx b), .fr false (tx ((mt a b).take i ++ [if a[i] = 45 then b[i] else a[i]])), s] := fun hn s => by
      rw [hI]
      exact ⟨_, by rw [g], nocl_step a1 a2 h hn⟩
    have cl := cl_of a1 a2
    generalize a[i] = x at *
    generalize b[i] = y at *
    simp [ia, ib, ad]
    refine ⟨fun h => ?_, fun h => ⟨fun h' => ?_, fun h1 h2 => ?_⟩⟩
    · have := nx (fun z => z.1 h) (.fr false (.int (i : Int)))
      rw [if_pos h] at this
      exact this
    · have := nx (fun z => by
        rcases h' with hy | hy
        · exact z.2.1 hy
        · exact z.2.2 hy.symm) (.fr false (.int (i : Int)))
      rw [if_neg h] at this
      exact this
    · exact q1 (cl ⟨h, h1, fun z => h2 z.symm⟩)
  · rw [hI] at h
    obtain ⟨s, rfl, h⟩ := h
    have e : (mt a b).take (rngD 0 a.length).length = mt a b := List.take_of_length_le (by rw [ml]; simp [rngD]; omega)
    rw [e]
    simp
    exact q2 (nocl_end (by simp [rngD]; omega) h)
def rowWithin : MF := ⟨4, (.cons (.for_ (.t [2, 3]) (.zip (.v 0) (.v 1)) (.cons (.ife (.bop true (.cons (.cmp .NotEq (.v 3) (.ks "-")) (.cons (.cmp .NotEq (.v 3) (.v 2)) .nil))) (.cons (.ret (.kb false)) .nil) .nil) .nil)) (.cons (.ret (.kb true)) .nil))⟩
theorem rowWithin_ok {Γ : FT} {n : Nat} {X : Str → Prop} {K : Rv → Prop} (l r : Tx) (q : ∀ b : Bool, (b = true ↔ Hold r l) → K (.fr false (.bool b))) : RS X (runF Γ n rowWithin [tx l, tx r]) K := by
  refine rs_run ?_
  simp [rowWithin, startE]
  obtain ⟨I, hI⟩ : ∃ I : Nat → List Sl → Prop, ∀ i e, I i e = ∃ (s s' : Sl), e = [.fr false (tx l), .fr false (tx r), s, s'] ∧ ∀ j, j < i → ∀ a b, r[j]? = some a → l[j]? = some b → a = 45 ∨ a = b := ⟨_, fun _ _ => rfl⟩
  refine fs_for I ?_ (fun i d e hd h => ?_) (fun e h => ?_)
  · rw [hI]
    exact ⟨_, _, rfl, fun j hj => absurd hj (Nat.not_lt_zero j)⟩
  · rw [hI] at h
    obtain ⟨s, s', rfl, h⟩ := h
    obtain ⟨hj, hi, rfl⟩ := zip_at hd
    have e1 := List.getElem?_eq_getElem hi
    have e2 := List.getElem?_eq_getElem hj
    generalize r[i] = a at *
    generalize l[i] = b at *
    have nx : (a = 45 ∨ a = b) → I (i + 1) [.fr false (tx l), .fr false (tx r), .fr false (tx [b]), .fr false (tx [a])] := fun hab => by
      rw [hI]
      refine ⟨_, _, rfl, fun j hj a' b' h1 h2 => ?_⟩
      by_cases hji : j < i
      · exact h j hji a' b' h1 h2
      · have : j = i := by omega
        subst this
        rw [e1] at h1; rw [e2] at h2
        cases h1; cases h2
        exact hab
    simp
    refine ⟨fun h1 h2 => q false ⟨fun z => (nomatch z), fun z => ?_⟩, fun h => nx (by by_cases h1 : a = 45 <;> simp_all)⟩
    rcases z i a b e1 e2 with z | z
    · exact absurd z h1
    · exact absurd z h2
  · rw [hI] at h
    obtain ⟨s, s', rfl, h⟩ := h
    try simp
    refine q true ⟨fun _ i a b h1 h2 => h i ?_ a b h1 h2, fun _ => rfl⟩
    have := (List.getElem?_eq_some_iff.mp h1).1
    have := (List.getElem?_eq_some_iff.mp h2).1
    rw [List.length_zipWith]
    omega
end M
theorem mt_self (r : Tx) : mt r r = r := by
  apply List.ext_getElem?
  intro i
  by_cases h : i < r.length
  · rw [mt_get h h, List.getElem?_eq_getElem h, ite_self]
  · rw [List.getElem?_eq_none (by rw [mt_len]; omega), List.getElem?_eq_none (by omega)]
/-- the law's own test that no place speaks against it -/
theorem lc_inside {X : Str → Prop} {f : D → R (Option (Bool × D))} {w : Nat} {l r : Tx} (hr : r.length = w) (hl : l.length = w) {K : Bool × List D → Prop}
    (hf : ∀ i (h1 : i < r.length) (h2 : i < l.length), f (.int (i : Int)) = if r[i] ≠ 45 ∧ r[i] ≠ l[i] then .ok (some (false, .int (i : Int))) else .ok none) (q : ∀ ks : List Int, (ks = [] ↔ Hold r l) → K (false, ks.map .int)) : RS X (lcR f (rngD 0 w)) K := by
  refine rs_lc (fun i m L => m = false ∧ ∃ ks : List Int, L = ks.map .int ∧ (ks = [] ↔ ∀ j, j < i → ∀ a b : Nat, r[j]? = some a → l[j]? = some b → a = 45 ∨ a = b)) ⟨rfl, [], rfl, by simp⟩ (fun i d m L hd' h => ?_) (fun m L h => ?_)
  · obtain ⟨rfl, ks, rfl, hk⟩ := h
    obtain ⟨hi, rfl⟩ := rngD_at hd'
    have e1 := List.getElem?_eq_getElem (l := r) (i := i) (by omega)
    have e2 := List.getElem?_eq_getElem (l := l) (i := i) (by omega)
    have stp : (r[i]'(by omega) = 45 ∨ r[i]'(by omega) = l[i]'(by omega)) → ((∀ j, j < i → ∀ a b : Nat, r[j]? = some a → l[j]? = some b → a = 45 ∨ a = b) ↔ ∀ j, j < i + 1 → ∀ a b : Nat, r[j]? = some a → l[j]? = some b → a = 45 ∨ a = b) := fun hab => by
      refine ⟨fun h j hj a b h1 h2 => ?_, fun h j hj => h j (by omega)⟩
      by_cases hji : j < i
      · exact h j hji a b h1 h2
      · have : j = i := by omega
        subst this
        rw [e1] at h1; rw [e2] at h2
        cases h1; cases h2
        exact hab
    rw [show (0 : Int) + (i : Int) = (i : Int) by omega, hf i (by omega) (by omega)]
    split
    · rename_i hc
      rw [rs_ok]
      refine ⟨rfl, ks ++ [(i : Int)], by simp, ?_⟩
      refine ⟨fun z => absurd z (by simp), fun z => ?_⟩
      rcases z i (by omega) _ _ e1 e2 with z | z
      · exact absurd z hc.1
      · exact absurd z hc.2
    · rename_i hc
      rw [rs_ok]
      refine ⟨rfl, ks, rfl, hk.trans (stp ?_)⟩
      by_cases h1 : r[i]'(by omega) = 45
      · exact .inl h1
      · exact .inr (Classical.byContradiction fun h2 => hc ⟨h1, h2⟩)
  · obtain ⟨rfl, ks, rfl, hk⟩ := h
    refine q ks ?_
    rw [hk]
    refine ⟨fun h i a b h1 h2 => h i ?_ a b h1 h2, fun h j _ => h j⟩
    have := (List.getElem?_eq_some_iff.mp h1).1
    simp [rngD]
    omega
end En
set_option Elab.async false
set_option linter.all false
set_option maxRecDepth 100000
set_option maxHeartbeats 4000000
namespace En
open PySem L2

/-! ### ways -/
def Sm (l : Tx) : Prop := ∀ c ∈ l, c < 1114112
abbrev Wy := Tx × Tx
def wy (p : Wy) : D := .tuple [tx p.1, tx p.2]
@[simp] theorem imm_wy (p : Wy) : imm (wy p) = true := by simp [wy]
@[simp] theorem imms_wy (l : List Wy) : imms (l.map wy) = true := by
  induction l with
  | nil => simp
  | cons a l ih => simp [ih]
@[simp] theorem ans_wys (b m : Bool) (l : List Wy) : ans b (.ow m (.list (l.map wy))) = .ok (.ow false (.list (l.map wy))) := ans_imms (imms_wy l)
@[simp] theorem mk_wy (m : Bool) (p : Wy) : mk m false (wy p) = .fr m (wy p) := mk_tup _ _
theorem wy0 (p : Wy) : semIx (wy p) (.int 0) = some (tx p.1) := ix_tup (i := 0) rfl
theorem wy1 (p : Wy) : semIx (wy p) (.int 1) = some (tx p.2) := ix_tup (i := 1) rfl
theorem wy_at {ws : List Wy} {i : Nat} (h : i < ws.length) : semIx (.list (ws.map wy)) (.int (i : Int)) = some (wy ws[i]) := ix_list (by rw [List.getElem?_map, List.getElem?_eq_getElem h]; rfl)
theorem nc_sm {l : Tx} (h : Sm l) : Nc 0 (tx l) := (flat_tx h).nc
/-- the door of the longest beginning -/
def Best (ws : List Wy) (s : Tx) (d : D) : Prop := (d = .none ∧ ∀ v ∈ ws, ¬ v.1 <+: s) ∨ ∃ v ∈ ws, d = tx v.2 ∧ v.1 <+: s ∧ ∀ u ∈ ws, u.1 <+: s → u.1.length ≤ v.1.length
theorem best_one {ws : List Wy} {s : Tx} {d e : D} (hn : (ws.map (·.1)).Nodup) (h1 : Best ws s d) (h2 : Best ws s e) : d = e := by
  rcases h1 with ⟨rfl, h1⟩ | ⟨v, hv, rfl, p1, m1⟩
  · rcases h2 with ⟨rfl, _⟩ | ⟨v, hv, _, p, _⟩
    · rfl
    · exact absurd p (h1 v hv)
  · rcases h2 with ⟨_, h2⟩ | ⟨u, hu, rfl, p2, m2⟩
    · exact absurd p1 (h2 v hv)
    · have hl : v.1.length = u.1.length := Nat.le_antisymm (m2 v hv p1) (m1 u hu p2)
      have e1 : v.1 = u.1 := by
        rw [List.prefix_iff_eq_take] at p1 p2
        rw [p1, p2, hl]
      have : v = u := by
        obtain ⟨i, hi, rfl⟩ := List.getElem_of_mem hv
        obtain ⟨j, hj, rfl⟩ := List.getElem_of_mem hu
        have : i = j := by
          refine Classical.byContradiction fun hij => ?_
          have hp := List.pairwise_iff_getElem.mp hn
          rcases Nat.lt_or_gt_of_ne hij with h | h
          · exact hp i j (by simpa using hi) (by simpa using hj) h (by simpa using e1)
          · exact hp j i (by simpa using hj) (by simpa using hi) h (by simpa using e1.symm)
        subst this
        rfl
      rw [this]
theorem starts_tx (s b : Tx) : semMt (tx s) "startswith" [tx b] = some (false, .bool (decide (b <+: s))) := by
  unfold semMt
  rw [if_neg (by decide), if_pos rfl]
  show some (false, PyData.bool ((⟨s.toArray⟩ : Str).cps.toList.take (⟨b.toArray⟩ : Str).length == (⟨b.toArray⟩ : Str).cps.toList)) = _
  congr 3
  rw [Bool.eq_iff_iff, beq_iff_eq, decide_eq_true_iff, List.prefix_iff_eq_take]
  have : (⟨b.toArray⟩ : Str).length = b.length := by simp [Str.length]
  rw [this]
  exact ⟨fun h => h.symm, fun h => h.symm⟩
theorem e_r3 {Γ : FT} {env : List Sl} (a : ME) : evI Γ env (.r3 a (.neg (.ki 1)) (.neg (.ki 1))) = (evE Γ env a).bind fun x => (intR x.d).bind fun o => match o with
    | some n => if -(2 ^ 62) ≤ n ∧ n < 2 ^ 62 then .ok (false, rngC n (-1) (n + 1).toNat) else .bad
    | none => .bad := by
  rw [evI]
  simp only [e_neg, e_ki, bind_ok', rd_fr, negR_int]
  cases evE Γ env a with
  | bad => rfl
  | err x => rfl
  | ok x =>
    simp only [bind_ok']
    cases x.d <;> first | rfl | simp [intR, sm, R.bind]
theorem rngC_at {n k i : Nat} {d : D} (h : (rngC (n : Int) (-1) k)[i]? = some d) : i < k ∧ d = .int ((n : Int) - (i : Int)) := by
  unfold rngC at h
  rw [List.getElem?_map] at h
  cases e : (List.range k)[i]? with
  | none => rw [e] at h; cases h
  | some j =>
    rw [e] at h
    obtain ⟨h1, h2⟩ := List.getElem?_eq_some_iff.mp e
    have h1' : i < k := by simpa using h1
    rw [List.getElem_range] at h2
    subst h2
    cases h
    exact ⟨h1', by rw [show (n : Int) - (i : Int) = (n : Int) + (i : Int) * (-1) by omega]⟩
namespace M
def wayFound : MF := ⟨6, (.cons (.set 2 .kn false) (.cons (.set 3 (.neg (.ki 1)) false) (.cons (.for_ (.t [4, 5]) (.e (.v 0)) (.cons (.ife (.bop true (.cons (.mt (.v 1) "startswith" (.cons (.v 4) .nil)) (.cons (.cmp .Gt (.bi "len" (.cons (.v 4) .nil)) (.v 3)) .nil))) (.cons (.set 2 (.v 5) false) (.cons (.set 3 (.bi "len" (.cons (.v 4) .nil)) false) .nil)) .nil) .nil)) (.cons (.ret (.v 2)) .nil))))⟩
theorem wayFound_ok {Γ : FT} {n : Nat} {X : Str → Prop} {K : Rv → Prop} (ws : List Wy) (s : Tx) (hs : ∀ v ∈ ws, v.1.length ≤ 1000) (q : ∀ m d, Best ws s d → K (.fr m d)) : RS X (runF Γ n wayFound [.list (ws.map wy), tx s]) K := by
  refine rs_run ?_
  simp [wayFound, startE]
  obtain ⟨I, hI⟩ : ∃ I : Nat → List Sl → Prop, ∀ i e, I i e = ∃ (m : Bool) (d : D) (z : Int) (s4 s5 : Sl), e = [.fr true (.list (ws.map wy)), .fr false (tx s), .fr m d, .fr false (.int z), s4, s5] ∧ ((d = .none ∧ z = -1 ∧ ∀ v ∈ ws.take i, ¬ v.1 <+: s) ∨ ∃ v ∈ ws.take i, d = tx v.2 ∧ z = v.1.length ∧ v.1 <+: s ∧ ∀ u ∈ ws.take i, u.1 <+: s → u.1.length ≤ v.1.length) := ⟨_, fun _ _ => rfl⟩
  refine fs_for I ?_ (fun i d e hd h => ?_) (fun e h => ?_)
  · rw [hI]
    exact ⟨_, _, _, _, _, rfl, .inl ⟨rfl, rfl, by simp⟩⟩
  · rw [hI] at h
    obtain ⟨m, d, z, s4, s5, rfl, h⟩ := h
    obtain ⟨hi, rfl⟩ := map_at hd
    have g := take_get (List.getElem?_eq_getElem hi)
    have hv := hs _ (List.getElem_mem hi)
    generalize ws[i] = v at *
    obtain ⟨b, t⟩ := v
    have hv : b.length ≤ 1000 := hv
    simp [wy, starts_tx, len_tx (l := b) (sz _ (by omega))]
    have zle : (∀ u ∈ ws.take i, u.1 <+: s → (u.1.length : Int) ≤ z) ∧ -1 ≤ z := by
      rcases h with ⟨_, rfl, h⟩ | ⟨u, _, _, rfl, _, h⟩
      · exact ⟨fun u hu p => absurd p (h u hu), by omega⟩
      · exact ⟨fun u hu p => by exact_mod_cast h u hu p, by omega⟩
    refine ⟨fun hp hz => ?_, fun hpz => ?_⟩ <;> rw [hI]
    · refine ⟨_, _, _, _, _, rfl, .inr ⟨(b, t), by rw [g]; simp, rfl, rfl, hp, fun u hu pu => ?_⟩⟩
      rw [g] at hu
      rcases List.mem_append.mp hu with hu | hu
      · have := zle.1 u hu pu
        show u.1.length ≤ b.length
        omega
      · rw [List.mem_singleton.mp hu]
        exact Nat.le_refl _
    · refine ⟨_, _, _, _, _, rfl, ?_⟩
      rcases h with ⟨e, rfl, h⟩ | ⟨u, hu, e, rfl, pu, h⟩
      · refine .inl ⟨e, rfl, fun x hx px => ?_⟩
        rw [g] at hx
        rcases List.mem_append.mp hx with hx | hx
        · exact h x hx px
        · rw [List.mem_singleton.mp hx] at px
          have := hpz px
          omega
      · refine .inr ⟨u, by rw [g]; exact List.mem_append_left _ hu, e, rfl, pu, fun x hx px => ?_⟩
        rw [g] at hx
        rcases List.mem_append.mp hx with hx | hx
        · exact h x hx px
        · rw [List.mem_singleton.mp hx] at px ⊢
          have := hpz px
          show b.length ≤ u.1.length
          omega
  · rw [hI] at h
    obtain ⟨m, d, z, s4, s5, rfl, h⟩ := h
    rw [List.take_of_length_le (by simp)] at h
    simp
    refine q _ _ ?_
    rcases h with ⟨e, _, h⟩ | ⟨u, hu, e, _, pu, h⟩
    · exact .inl ⟨e, h⟩
    · exact .inr ⟨u, hu, e, pu, h⟩
def lawDoor : MF := ⟨5, (.cons (.for_ (.n 2) (.r3 (.bi "len" (.cons (.v 1) .nil)) (.neg (.ki 1)) (.neg (.ki 1))) (.cons (.for_ (.t [3, 4]) (.e (.v 0)) (.cons (.ife (.cmp .Eq (.v 3) (.sl (.v 1) .no (.so (.v 2)))) (.cons (.ret (.v 4)) .nil) .nil) .nil)) .nil)) (.cons (.ret .kn) .nil))⟩
theorem lawDoor_ok {Γ : FT} {n : Nat} {X : Str → Prop} {K : Rv → Prop} (ws : List Wy) (s : Tx) (hs : s.length ≤ 1000) (q : ∀ m d, Best ws s d → K (.fr m d)) : RS X (runF Γ n lawDoor [.list (ws.map wy), tx s]) K := by
  have hd' : s.length ≤ sizeLine := sz _ (by omega)
  refine rs_run ?_
  simp [lawDoor, startE, e_r3, len_tx hd']
  refine ⟨by omega, ?_⟩
  obtain ⟨I, hI⟩ : ∃ I : Nat → List Sl → Prop, ∀ i e, I i e = ∃ (s2 s3 s4 : Sl), e = [.fr true (.list (ws.map wy)), .fr false (tx s), s2, s3, s4] ∧ ∀ v ∈ ws, v.1 <+: s → v.1.length + i ≤ s.length := ⟨_, fun _ _ => rfl⟩
  refine fs_for I ?_ (fun i d e hd h => ?_) (fun e h => ?_)
  · rw [hI]
    exact ⟨_, _, _, rfl, fun v hv p => p.length_le⟩
  · rw [hI] at h
    obtain ⟨s2, s3, s4, rfl, h⟩ := h
    obtain ⟨hi, rfl⟩ := rngC_at hd
    have hi' : i ≤ s.length := by omega
    obtain ⟨k, hk⟩ : ∃ k : Nat, (k : Int) = (s.length : Int) - (i : Int) ∧ k + i = s.length := ⟨s.length - i, by omega, by omega⟩
    rw [← hk.1]
    simp
    obtain ⟨J, hJ⟩ : ∃ J : Nat → List Sl → Prop, ∀ j e, J j e = ∃ (s3 s4 : Sl), e = [.fr true (.list (ws.map wy)), .fr false (tx s), .fr false (.int (k : Int)), s3, s4] ∧ ∀ v ∈ ws.take j, v.1 ≠ s.take k := ⟨_, fun _ _ => rfl⟩
    refine fs_for J ?_ (fun j d e hd h' => ?_) (fun e h' => ?_)
    · rw [hJ]
      exact ⟨_, _, rfl, by simp⟩
    · rw [hJ] at h'
      obtain ⟨s3, s4, rfl, h'⟩ := h'
      obtain ⟨hj, rfl⟩ := map_at hd
      have g := take_get (List.getElem?_eq_getElem hj)
      have hm := List.getElem_mem hj
      generalize ws[j] = v at *
      obtain ⟨b, t⟩ := v
      simp [wy, sp_to (l := s) (i := k) (by omega)]
      refine ⟨fun hb => ?_, fun hb => ?_⟩
      · refine q _ _ (.inr ⟨(b, t), hm, rfl, ?_, fun u hu pu => ?_⟩)
        · show b <+: s
          rw [hb]
          exact List.take_prefix _ _
        · have := h u hu pu
          show u.1.length ≤ b.length
          rw [hb, List.length_take]
          omega
      · rw [hJ]
        refine ⟨_, _, rfl, fun u hu => ?_⟩
        rw [g] at hu
        rcases List.mem_append.mp hu with hu | hu
        · exact h' u hu
        · rw [List.mem_singleton.mp hu]; exact hb
    · rw [hJ] at h'
      obtain ⟨s3, s4, rfl, h'⟩ := h'
      rw [List.length_map, List.take_of_length_le (Nat.le_refl _)] at h'
      rw [hI]
      refine ⟨_, _, _, rfl, fun v hv pv => ?_⟩
      have h1 := h v hv pv
      by_cases hl : v.1.length = k
      · refine absurd ?_ (h' v hv)
        rw [List.prefix_iff_eq_take] at pv
        rw [← hl]
        exact pv
      · omega
  · rw [hI] at h
    obtain ⟨s2, s3, s4, rfl, h⟩ := h
    try simp
    refine q _ _ (.inl ⟨rfl, fun v hv pv => ?_⟩)
    have := h v hv pv
    have el : (rngC (s.length : Int) (-1) (s.length + 1)).length = s.length + 1 := by
      unfold rngC
      rw [List.length_map, List.length_range]
    rw [el] at this
    omega
end M
end En
set_option Elab.async false
set_option linter.all false
set_option maxRecDepth 100000
set_option maxHeartbeats 4000000
namespace En
open PySem L2

def abcT : Tx := [97, 98, 99, 100, 101, 102, 103, 104, 105, 106, 107, 108, 109, 110, 111, 112, 113, 114, 115, 116, 117, 118, 119, 120, 121, 122]
@[simp] theorem lit_abc : (PyData.str (Str.ofString "abcdefghijklmnopqrstuvwxyz") : D) = tx abcT := (rfl)
theorem abc_sm : Sm abcT := by
  unfold Sm abcT
  decide
theorem ix_abc (i : Int) (h0 : 0 ≤ i) (h1 : i < 26) : ∃ c, c < 1114112 ∧ semIx (tx abcT) (.int i) = some (tx [c]) := by
  obtain ⟨k, rfl⟩ := Int.eq_ofNat_of_zero_le h0
  have hk : k < abcT.length := by show k < 26; omega
  exact ⟨abcT[k], abc_sm _ (List.getElem_mem hk), ix_tx (sz _ (by decide)) (List.getElem?_eq_getElem hk)⟩
theorem sm_app {a b : Tx} (h1 : Sm a) (h2 : Sm b) : Sm (a ++ b) := fun c hc => (List.mem_append.mp hc).elim (h1 c) (h2 c)
theorem sm_one {c : Nat} (h : c < 1114112) : Sm [c] := fun x hx => by rw [List.mem_singleton.mp hx]; exact h
theorem sm_take {a : Tx} {k : Nat} (h : Sm a) : Sm (a.take k) := fun c hc => h c (List.mem_of_mem_take hc)
theorem sm_drop {a : Tx} {k : Nat} (h : Sm a) : Sm (a.drop k) := fun c hc => h c (List.mem_of_mem_drop hc)
theorem sm_set {a : Tx} {k c : Nat} (h : Sm a) (hc : c < 1114112) : Sm (a.set k c) := fun x hx => by
  rcases List.mem_or_eq_of_mem_set hx with hx | hx
  · exact h x hx
  · rw [hx]; exact hc
/-- signs by a comprehension over numbers -/
theorem lc_signs {P : Nat → Prop} {X : Str → Prop} {f : D → R (Option (Bool × D))} {l : List Int} {K : Bool × List D → Prop} (hf : ∀ x ∈ l, RS (fun _ => False) (f (.int x)) fun o => ∃ c, P c ∧ o = some (false, tx [c])) (q : ∀ b : Tx, b.length = l.length → (∀ c ∈ b, P c) → K (false, b.map fun c => tx [c])) : RS X (lcR f (l.map PyData.int)) K := by
  refine rs_lc (fun i m L => m = false ∧ ∃ b : Tx, L = (b.map fun c => tx [c]) ∧ b.length = i ∧ ∀ c ∈ b, P c) ⟨rfl, [], rfl, rfl, by simp⟩ (fun i d m L hd' h => ?_) (fun m L h => ?_)
  · obtain ⟨rfl, b, rfl, hl, hb⟩ := h
    obtain ⟨hi, rfl⟩ := map_at hd'
    refine rs_imp (rs_x (hf _ (List.getElem_mem hi)) fun _ => False.elim) ?_
    rintro _ ⟨c, hc, rfl⟩
    exact ⟨rfl, b ++ [c], by simp, by simp [hl], M.mem_app hb hc⟩
  · obtain ⟨rfl, b, rfl, hl, hb⟩ := h
    rw [List.length_map] at hl
    exact q b hl hb
/-- both parts of an "and", by what holds of the answer -/
theorem bop_cut {X : Str → Prop} {con t : Bool} {r : R Bool} {K : Bool → Prop} (P : Bool → Prop) (h1 : t = con → RS X r P) (h2 : t = !con → P (!con)) (h3 : ∀ u, P u → K u) : RS X (bopR t con r) K := by
  unfold bopR
  split
  · rename_i e
    exact rs_imp (h1 e) h3
  · rename_i e
    have : t = !con := by cases t <;> cases con <;> simp_all
    rw [rs_ok, this]
    exact h3 _ (h2 this)
namespace M
def names : MF := ⟨7, (.cons (.set 2 (.ks "abcdefghijklmnopqrstuvwxyz") false) (.cons (.set 3 (.mt (.ks "") "join" (.cons (.lc (.n 5) (.e (.call "_law_stream" (.cons (.bin .FloorDiv (.v 0) (.ki 3)) (.cons (.ki 8) .nil)))) .no (.ix (.v 2) (.bin .Mod (.v 5) (.ki 26)))) .nil)) false) (.cons (.ife (.bop true (.cons (.cmp .Eq (.bin .Mod (.v 0) (.ki 3)) (.ki 1)) (.cons (.cmp .LtE (.v 1) (.ki 8)) .nil))) (.cons (.ret (.lc (.n 6) (.r1 (.v 1)) .no (.sl (.v 3) .no (.so (.bin .Add (.v 6) (.ki 1)))))) .nil) .nil) (.cons (.set 3 (.sl (.v 3) .no (.so (.bin .Add (.ki 1) (.bin .Mod (.bin .FloorDiv (.v 0) (.ki 3)) (.ki 8))))) false) (.cons (.set 4 (.bin .Mod (.bin .FloorDiv (.v 0) (.ki 24)) (.bi "len" (.cons (.v 3) .nil))) false) (.cons (.ret (.lc (.n 6) (.r1 (.v 1)) .no (.bin .Add (.bin .Add (.sl (.v 3) .no (.so (.v 4))) (.ix (.v 2) (.bin .Mod (.bin .Add (.bin .FloorDiv (.v 0) (.ki 3)) (.bin .Mult (.ki 7) (.v 6))) (.ki 26)))) (.sl (.v 3) (.so (.bin .Add (.v 4) (.ki 1))) .no)))) .nil))))))⟩
theorem names_ok {Γ : FT} {n : Nat} {X : Str → Prop} {K : Rv → Prop} (hs : StreamAt Γ) (c : Int) (many : Nat) (hm : many ≤ 1000) (q : ∀ ds : List Tx, ds.length = many → (∀ d ∈ ds, Sm d) → K (.ow false (.list (ds.map tx)))) : RS X (runF Γ n names [.int c, .int (many : Int)]) K := by
  obtain ⟨Γ1, n1, e1⟩ := hs
  have many62 : rg1 (.int (many : Int)) = .ok (false, rngD 0 many) := rg1_nat many (by omega)
  refine rs_run ?_
  refine fs_at 3 (fun e => ∃ b : Tx, b.length = 8 ∧ Sm b ∧ e = [.fr false (.int c), .fr false (.int (many : Int)), .fr false (tx abcT), .fr false (tx b), .no, .no, .no]) ?_ ?_
  · simp [names, takeS, startE, e_call e1, En.div_int]
    refine stream_okN (Γ := Γ1) (c / 3) 8 (by omega) fun l hl _ => ?_
    simp
    refine lc_signs (P := fun c => c < 1114112) (fun x hx => ?_) fun b hb hbs => ?_
    · obtain ⟨c, hc, e⟩ := ix_abc (x % 26) (by omega) (by omega)
      simp [lcT, En.mod_int, e]
      exact ⟨c, hc, rfl⟩
    rw [hl] at hb
    have hbs : Sm b := hbs
    have nx : ∃ b' : Tx, b'.length = 8 ∧ Sm b' ∧ tx b = tx b' := ⟨b, hb, hbs, rfl⟩
    refine ⟨sz _ (by omega), ?_⟩
    simp [M.join_sg (l := b) (by omega), En.mod_int, many62]
    refine ⟨fun _ => ⟨fun _ => ?_, fun _ => nx⟩, fun _ => nx⟩
    refine rs_lc (fun i m L => m = false ∧ ∃ ds : List Tx, L = ds.map tx ∧ ds.length = i ∧ ∀ d ∈ ds, Sm d) ⟨rfl, [], rfl, rfl, by simp⟩ (fun i d m L hd' h => ?_) (fun m L h => ?_)
    · obtain ⟨rfl, ds, rfl, hl, hd⟩ := h
      obtain ⟨hi, rfl⟩ := rngD_at hd'
      have sp := sp_to (l := b) (i := i + 1) (by omega)
      rw [show ((i + 1 : Nat) : Int) = (i : Int) + 1 by omega] at sp
      simp [lcT, sp]
      exact ⟨ds ++ [b.take (i + 1)], by simp, by simp [hl], fun d h => by
        rcases List.mem_append.mp h with h | h
        · exact hd d h
        · rw [List.mem_singleton.mp h]; exact sm_take hbs⟩
    · obtain ⟨rfl, ds, rfl, hl, hd⟩ := h
      refine ⟨sz _ (by simp [rngD]; omega), ?_⟩
      exact q ds (by simpa [rngD] using hl) hd
  · rintro _ ⟨b, hb, hbs, rfl⟩
    obtain ⟨k, hk, hk8⟩ : ∃ k : Nat, (k : Int) = 1 + c / 3 % 8 ∧ 1 ≤ k ∧ k ≤ 8 := ⟨(1 + c / 3 % 8).toNat, by omega, by omega, by omega⟩
    have ll : (b.take k).length = k := by rw [List.length_take]; omega
    have hbk : Sm (b.take k) := sm_take hbs
    simp [names, dropS, -fs_if, En.mod_int, En.div_int, ← hk, sp_to (l := b) (i := k) (by omega)]
    generalize b.take k = a at *
    simp [-fs_if, len_tx (l := a) (sz _ (by omega)), ll]
    obtain ⟨p, hp, hpk⟩ : ∃ p : Nat, (p : Int) = c / 24 % (k : Int) ∧ p < k := by
      have h1 := Int.emod_nonneg (c / 24) (show (k : Int) ≠ 0 by omega)
      have h2 := Int.emod_lt_of_pos (c / 24) (show (0 : Int) < (k : Int) by omega)
      exact ⟨(c / 24 % (k : Int)).toNat, by omega, by omega⟩
    simp [En.mod_int (i := c / 24) (j := (k : Int)) (by omega), ← hp, many62]
    refine rs_lc (fun i m L => m = false ∧ ∃ ds : List Tx, L = ds.map tx ∧ ds.length = i ∧ ∀ d ∈ ds, Sm d) ⟨rfl, [], rfl, rfl, by simp⟩ (fun i d m L hd' h => ?_) (fun m L h => ?_)
    · obtain ⟨rfl, ds, rfl, hl, hd⟩ := h
      obtain ⟨hi, rfl⟩ := rngD_at hd'
      obtain ⟨y, hy, e⟩ := ix_abc ((c / 3 + 7 * (i : Int)) % 26) (by omega) (by omega)
      simp [lcT, En.mod_int, En.div_int, mul_l (i := 7) (by omega), e, sp_to (l := a) (i := p) (by omega), sp_from (l := a) (i := p) (by omega), sp_a1 (l := a) (i := p) (by omega), sp_a2 (l := a) (i := p) (by omega) (by omega)]
      exact ⟨ds ++ [a.set p y], by simp, by simp [hl], fun d h => by
        rcases List.mem_append.mp h with h | h
        · exact hd d h
        · rw [List.mem_singleton.mp h]; exact sm_set hbk hy⟩
    · obtain ⟨rfl, ds, rfl, hl, hd⟩ := h
      refine ⟨sz _ (by simp [rngD]; omega), ?_⟩
      simp
      exact q ds (by simpa [rngD] using hl) hd
def ways : MF := ⟨10, (.cons (.set 3 (.lst .nil) true) (.cons (.set 4 (.lst .nil) true) (.cons (.for_ (.n 5) (.e (.v 0)) (.cons (.set 6 (.bin .Mod (.v 5) (.bin .Add (.v 1) (.ki 1))) false) (.cons (.set 7 (.mt (.ks "") "join" (.cons (.lc (.n 9) (.e (.call "_law_stream" (.cons (.bin .Mod (.bin .FloorDiv (.v 5) (.ki 49)) (.ki 3)) (.cons (.v 6) .nil)))) .no (.ix (.ks "01") (.bin .Mod (.bin .FloorDiv (.v 9) (.ki 8)) (.ki 2)))) .nil)) false) (.cons (.ife (.bop true (.cons (.cmp .Gt (.v 6) (.ki 0)) (.cons (.cmp .Gt (.bin .Mod (.bin .FloorDiv (.v 5) (.ki 147)) (.ki 3)) (.ki 0)) .nil))) (.cons (.set 8 (.bin .Mod (.bin .FloorDiv (.v 5) (.ki 441)) (.v 6)) false) (.cons (.set 7 (.bin .Add (.bin .Add (.sl (.v 7) .no (.so (.v 8))) (.ix (.ks "10") (.bi "int" (.cons (.ix (.v 7) (.v 8)) .nil)))) (.sl (.v 7) (.so (.bin .Add (.v 8) (.ki 1))) .no)) false) .nil)) .nil) (.cons (.ife (.cmp .NotIn (.v 7) (.v 4)) (.cons (.app 4 (.v 7)) (.cons (.app 3 (.tup (.cons (.v 7) (.cons (.ix (.v 2) (.bin .Mod (.bin .FloorDiv (.v 5) (.ki 7)) (.bi "len" (.cons (.v 2) .nil)))) .nil)))) .nil)) .nil) .nil))))) (.cons (.reto 3) .nil))))⟩
theorem ways_ok {Γ : FT} {n : Nat} {X : Str → Prop} {K : Rv → Prop} (hs : StreamAt Γ) (cs : List Int) (most : Nat) (hm : most ≤ 48) (doors : List Tx) (hd : ∀ d ∈ doors, Sm d) (hd1 : 1 ≤ doors.length) (hc : cs.length ≤ 1000)
    (q : ∀ ws : List Wy, (ws.map (·.1)).Nodup → (∀ v ∈ ws, Ltr v.1.length v.1 ∧ v.1.length ≤ most ∧ Sm v.2) → ws.length ≤ cs.length → K (.ow false (.list (ws.map wy)))) : RS X (runF Γ n ways [.list (cs.map .int), .int (most : Int), .list (doors.map tx)]) K := by
  obtain ⟨Γ1, n1, e1⟩ := hs
  refine rs_run ?_
  simp [-fs_if, ways, startE]
  obtain ⟨I, hI⟩ : ∃ I : Nat → List Sl → Prop, ∀ i e, I i e = ∃ (s5 s6 s7 s8 : Sl) (ws : List Wy) (L L2 : D), e = [.fr true (.list (cs.map .int)), .fr false (.int (most : Int)), .fr true (.list (doors.map tx)), .ow false L, .ow false L2, s5, s6, s7, s8, .no] ∧ L = .list (ws.map wy) ∧ L2 = .list ((ws.map (·.1)).map tx) ∧ (ws.map (·.1)).Nodup ∧ (∀ v ∈ ws, Ltr v.1.length v.1 ∧ v.1.length ≤ most ∧ Sm v.2) ∧ ws.length ≤ i := ⟨_, fun _ _ => rfl⟩
  refine fs_for I ?_ (fun i d e hd' h => ?_) (fun e h => ?_)
  · rw [hI]
    exact ⟨_, _, _, _, [], _, _, rfl, rfl, rfl, by simp, by simp, Nat.le_refl _⟩
  · rw [hI] at h
    obtain ⟨s5, s6, s7, s8, ws, L, L2, rfl, rfl, rfl, hn, hw, hl⟩ := h
    obtain ⟨hi, rfl⟩ := map_at hd'
    generalize cs[i] = c at *
    obtain ⟨z, hz, hz2⟩ : ∃ z : Nat, (z : Int) = c % ((most : Int) + 1) ∧ z ≤ most := by
      have h1 := Int.emod_nonneg c (show ((most : Int) + 1) ≠ 0 by omega)
      have h2 := Int.emod_lt_of_pos c (show (0 : Int) < ((most : Int) + 1) by omega)
      exact ⟨(c % ((most : Int) + 1)).toNat, by omega, by omega⟩
    simp [-fs_if, -rs_bopA, En.mod_int (i := c) (j := (most : Int) + 1) (by omega), ← hz, e_call e1, En.mod_int, En.div_int]
    refine stream_okN (Γ := Γ1) _ z (by omega) fun l hl' _ => ?_
    simp [-fs_if, -rs_bopA]
    refine lc_bits (fun x hx => ?_) fun b hb => ?_
    · obtain ⟨c, hc, e⟩ := ix_01 (x / 8 % 2) (by omega) (by omega)
      simp [lcT, En.mod_int, En.div_int, e]
      exact ⟨c, hc, rfl⟩
    rw [hl'] at hb
    have hbl := hb.1
    refine ⟨sz _ (by omega), ?_⟩
    simp [-fs_if, -rs_bopA, M.join_sg (l := b) (by omega), En.mod_int, En.div_int]
    refine fs_cut (fun e => ∃ (b : Tx) (s8 : Sl), Ltr z b ∧ e = [.fr true (.list (cs.map .int)), .fr false (.int (most : Int)), .fr true (.list (doors.map tx)), .ow false (.list (ws.map wy)), .ow false (.list ((ws.map (·.1)).map tx)), .fr true (.int c), .fr false (.int (z : Int)), .fr false (tx b), s8, .no]) (fun ht => ?_) (fun _ => ?_) (fun e h => ?_)
    · have hz1 : 1 ≤ z := by
        simp at ht
        omega
      obtain ⟨p, hp, hpz⟩ : ∃ p : Nat, (p : Int) = c / 441 % (z : Int) ∧ p < z := by
        have h1 := Int.emod_nonneg (c / 441) (show (z : Int) ≠ 0 by omega)
        have h2 := Int.emod_lt_of_pos (c / 441) (show (0 : Int) < (z : Int) by omega)
        exact ⟨(c / 441 % (z : Int)).toNat, by omega, by omega⟩
      have hk : p < b.length := by omega
      have i0 : semIx (tx [49, 48]) (.int 0) = some (tx [49]) := ix_tx (i := 0) (sz _ (by decide)) rfl
      have i1 : semIx (tx [49, 48]) (.int 1) = some (tx [48]) := ix_tx (i := 1) (sz _ (by decide)) rfl
      have st : ∀ y, Bt y → Ltr z (b.set p y) := fun y hy => ⟨by rw [List.length_set]; exact hbl, fun x hx => by
        rcases List.mem_or_eq_of_mem_set hx with hx | hx
        · exact hb.2 x hx
        · rw [hx]; exact hy⟩
      have hbt := hb.2 b[p] (List.getElem_mem hk)
      have ixb := ix_tx (l := b) (sz _ (by omega)) (List.getElem?_eq_getElem hk)
      simp [En.mod_int (i := c / 441) (j := (z : Int)) (by omega), En.div_int, ← hp]
      rcases hbt with h | h
      · simp [ixb, h, i0, sp_to (l := b) (i := p) (by omega), sp_from (l := b) (i := p) (by omega), sp_a1 (l := b) (i := p) (by omega), sp_a2 (l := b) (i := p) (by omega) hk]
        exact ⟨_, st 49 (.inr rfl), rfl⟩
      · simp [ixb, h, i1, sp_to (l := b) (i := p) (by omega), sp_from (l := b) (i := p) (by omega), sp_a1 (l := b) (i := p) (by omega), sp_a2 (l := b) (i := p) (by omega) hk]
        exact ⟨_, st 48 (.inl rfl), rfl⟩
    · simp
      exact ⟨b, hb, rfl⟩
    obtain ⟨b, s8, hb, rfl⟩ := h
    have hbl := hb.1
    have f1 : ws.length < sizeLine := slt (by omega)
    obtain ⟨p, hp, hpz⟩ : ∃ p : Nat, (p : Int) = c / 7 % (doors.length : Int) ∧ p < doors.length := by
      have h1 := Int.emod_nonneg (c / 7) (show (doors.length : Int) ≠ 0 by omega)
      have h2 := Int.emod_lt_of_pos (c / 7) (show (0 : Int) < (doors.length : Int) by omega)
      exact ⟨(c / 7 % (doors.length : Int)).toNat, by omega, by omega⟩
    have gd : semIx (.list (doors.map tx)) (.int (p : Int)) = some (tx doors[p]) := ix_list (by rw [List.getElem?_map, List.getElem?_eq_getElem hpz]; rfl)
    have hsd := hd _ (List.getElem_mem hpz)
    generalize doors[p] = dr at *
    have it := in_txs b (ws.map (·.1))
    generalize hkn : (ws.map (·.1)).map tx = kn at *
    have fk : kn.length < sizeLine := by rw [← hkn]; simpa using f1
    simp [it, fk, f1, En.mod_int (i := c / 7) (j := (doors.length : Int)) (by omega), En.div_int, ← hp, gd, sz 2 (by decide)]
    refine ⟨fun h => ?_, fun h => ?_⟩ <;> rw [hI]
    · refine ⟨_, _, _, _, ws ++ [(b, dr)], _, _, rfl, by simp [wy], by simp [← hkn], ?_, fun v hv => ?_, by simp; omega⟩
      · rw [List.map_append]
        refine List.nodup_append.mpr ⟨hn, by simp, fun x hx y hy => ?_⟩
        have : y = b := by simpa using hy
        rw [this]
        rintro rfl
        obtain ⟨u, hu, e⟩ := List.mem_map.mp hx
        exact absurd hu (by
          obtain ⟨u1, u2⟩ := u
          cases e
          exact h u2)
      · rcases List.mem_append.mp hv with hv | hv
        · exact hw v hv
        · rw [List.mem_singleton.mp hv]
          exact ⟨by rw [hbl]; exact hb, by show b.length ≤ most; omega, hsd⟩
    · exact fun _ => ⟨_, _, _, _, ws, _, _, rfl, rfl, by rw [hkn], hn, hw, by omega⟩
  · rw [hI] at h
    obtain ⟨s5, s6, s7, s8, ws, L, L2, rfl, rfl, rfl, hn, hw, hl⟩ := h
    simp
    exact q ws hn hw (by simpa using hl)
end M
end En
set_option Elab.async false
set_option linter.all false
set_option maxRecDepth 100000
set_option maxHeartbeats 4000000
namespace En
open PySem L2

/-! ### a rule that is needed -/
theorem in_two (x a b : Nat) : inO (tx [x]) (.tuple [tx [a], tx [b]]) = some (decide (a = x) || decide (b = x)) := by
  have e : (sc (tx [x]) && [tx [a], tx [b]].all sc) = true := by simp [sc, tx]
  show (if (sc (tx [x]) && [tx [a], tx [b]].all sc) = true then some ([tx [a], tx [b]].any fun y => PyData.eqv y (tx [x])) else none) = _
  rw [if_pos e]
  simp [eqv_tx]
theorem least_len (r : Tx) : (leastL r).length = r.length := List.length_map _
theorem least_get {r : Tx} {i : Nat} (h : i < r.length) : (leastL r)[i]? = some (if r[i] = 45 then 48 else r[i]) := by
  unfold leastL
  rw [List.getElem?_map, List.getElem?_eq_getElem h]
  rfl
theorem least_ltr {w : Nat} {r : Tx} (h : Row w r) : Ltr w (leastL r) := by
  refine ⟨by rw [least_len]; exact h.1, fun c hc => ?_⟩
  obtain ⟨x, hx, rfl⟩ := List.mem_map.mp hc
  show Bt (if x = 45 then 48 else x)
  split
  · exact .inl rfl
  · rename_i hn
    rcases h.2 x hx with z | z | z
    · exact .inl z
    · exact .inr z
    · exact absurd z hn
theorem least_hold (r : Tx) : Hold r (leastL r) := fun i a b e1 e2 => by
  have hi := (List.getElem?_eq_some_iff.mp e1).1
  rw [least_get hi] at e2
  rw [List.getElem?_eq_getElem hi] at e1
  cases e1
  by_cases hz : r[i] = 45
  · exact .inl hz
  · rw [if_neg hz] at e2
    exact .inr (Option.some.inj e2)
/-- what one rule (or none) does to a letter -/
def deedR (o : Option Ru) (l : Tx) : D := match o with
  | some r => if r.2.1 = dropT then dropD else .tuple [tx passT, tx (wr l r.2.2)]
  | none => dropD
theorem deedOf_R (P : Ru → Prop) (rs : List Ru) (l : Tx) : deedOf P rs l = deedR rs[firstOf P rs]? l := rfl
theorem tx_ne {a b : Tx} (h : (PyData.tuple [tx passT, tx a] : D) = .tuple [tx passT, tx b]) : a = b := by
  injection h with h
  injection h with _ h
  injection h with h _
  exact tx_inj.mp h
theorem pass_drop (a : Tx) : ¬ (PyData.tuple [tx passT, tx a] : D) = dropD := fun h => by
  injection h with h
  injection h with h _
  exact absurd (tx_inj.mp h) (by decide)
namespace M
def overParts : MF := ⟨6, (.cons (.for_ (.n 3) (.r1 (.bi "len" (.cons (.v 0) .nil))) (.cons (.set 4 (.ix (.v 0) (.v 3)) false) (.cons (.ife (.cmp .Eq (.v 4) (.ks "-")) (.cons (.set 4 (.ks "0") false) (.cons (.ife (.cmp .In (.ks "0") (.tup (.cons (.ix (.v 1) (.v 3)) (.cons (.ix (.v 2) (.v 3)) .nil)))) (.cons (.set 4 (.ks "1") false) .nil) .nil) .nil)) .nil) (.cons (.set 5 (.call "row_least" (.cons (.bin .Add (.bin .Add (.sl (.v 0) .no (.so (.v 3))) (.v 4)) (.sl (.v 0) (.so (.bin .Add (.v 3) (.ki 1))) .no)) .nil)) false) (.cons (.ife (.cmp .NotEq (.call "row_written" (.cons (.v 5) (.cons (.v 1) .nil))) (.call "row_written" (.cons (.v 5) (.cons (.v 2) .nil)))) (.cons (.ret (.v 5)) .nil) .nil) .nil))))) (.cons (.ret .kn) .nil))⟩
def LeastAt (Γ : FT) : Prop := Γ "row_least" = some (1, repG "-" "0")
theorem overParts_ok {Γ : FT} {n : Nat} {X : Str → Prop} {K : Rv → Prop} (hl : LeastAt Γ) (hw : WrittenAt Γ) {w : Nat} (hw9 : w ≤ 900) (row one other : Tx) (hr : Row w row) (h1 : Row w one) (h2 : Row w other)
    (q1 : (∀ l, Ltr w l → Hold row l → wr l one = wr l other) → K (.fr false .none)) (q2 : ∀ l, Ltr w l → Hold row l → wr l one ≠ wr l other → K (.fr false (tx l))) : RS X (runF Γ n overParts [tx row, tx one, tx other]) K := by
  have el := hl
  obtain ⟨Γ2, n2, e2⟩ := hw
  have lr := hr.1
  have l1 := h1.1
  have l2 := h2.1
  have sr : row.length ≤ sizeLine := sz _ (by omega)
  have s1 : one.length ≤ sizeLine := sz _ (by omega)
  have s2 : other.length ≤ sizeLine := sz _ (by omega)
  refine rs_run ?_
  simp [overParts, startE, len_tx sr]
  rw [rg1_le _ (by omega) (by omega)]
  simp
  obtain ⟨I, hI⟩ : ∃ I : Nat → List Sl → Prop, ∀ i e, I i e = ∃ (s3 s4 s5 : Sl), e = [.fr false (tx row), .fr false (tx one), .fr false (tx other), s3, s4, s5] ∧ ∀ j, j < i → ∀ l, Ltr w l → Hold row l → (wr l one)[j]? = (wr l other)[j]? := ⟨_, fun _ _ => rfl⟩
  refine fs_for I ?_ (fun i d e hd h => ?_) (fun e h => ?_)
  · rw [hI]
    exact ⟨_, _, _, rfl, fun j hj => absurd hj (Nat.not_lt_zero j)⟩
  · rw [hI] at h
    obtain ⟨s3, s4, s5, rfl, h⟩ := h
    obtain ⟨hi, rfl⟩ := rngD_at hd
    have a0 : i < row.length := by simpa using hi
    have a1 : i < one.length := by omega
    have a2 : i < other.length := by omega
    have ir := ix_tx sr (List.getElem?_eq_getElem a0)
    have i1 := ix_tx s1 (List.getElem?_eq_getElem a1)
    have i2 := ix_tx s2 (List.getElem?_eq_getElem a2)
    have fin : ∀ (s : Nat) (s4 : Sl), (row[i] ≠ 45 → s = row[i]) → Bt s → (∀ l, Ltr w l → Hold row l → (wr (leastL (row.set i s)) one)[i]? = (wr (leastL (row.set i s)) other)[i]? → (wr l one)[i]? = (wr l other)[i]?) →
        RS X (repG "-" "0" [tx (row.set i s)]) fun a => RS X (ans false a) fun a => FS X (fun e => K (.fr false .none)) (I (i + 1)) K (put1 false 5 [.fr false (tx row), .fr false (tx one), .fr false (tx other), .fr false (.int (i : Int)), s4, s5] a) fun e =>
          RS X (evE Γ e (.call "row_written" (.cons (.v 5) (.cons (.v 1) .nil)))) fun a => RS X (evE Γ e (.call "row_written" (.cons (.v 5) (.cons (.v 2) .nil)))) fun b => RS X (liftB ((eqO a.d b.d).map (!·))) fun a => RS X (En.truth a) fun t => (t = true → RS X (getR e[5]?) fun a => FS X (fun e => K (.fr false .none)) (I (i + 1)) K (retR a) (I (i + 1))) ∧ (t = false → I (i + 1) e) := fun s s4 hs hb hwr => by
      have hrow : Row w (row.set i s) := row_set hr hb.sg
      have hL := least_ltr hrow
      have hH : Hold row (leastL (row.set i s)) := fun j a b e1 e2 => by
        have hh := least_hold (row.set i s) j
        by_cases hj : i = j
        · subst hj
          rw [List.getElem?_eq_getElem a0] at e1
          cases e1
          by_cases hz : row[i] = 45
          · exact .inl hz
          · have := hh s b (List.getElem?_set_self a0) e2
            rw [hs hz] at this
            exact this
        · exact hh a b (by rw [List.getElem?_set_ne hj]; exact e1) e2
      have hLl := hL.1
      refine least_ok _ (by rw [List.length_set]; omega) ?_
      simp [e_call e2]
      refine written_ok (Γ := Γ2) _ _ (by omega) ?_
      simp
      refine written_ok (Γ := Γ2) _ _ (by omega) ?_
      simp
      refine ⟨fun hne => q2 _ hL hH hne, fun he => ?_⟩
      rw [hI]
      refine ⟨_, _, _, rfl, fun j hj l hl hh => ?_⟩
      by_cases hji : j < i
      · exact h j hji l hl hh
      · have : j = i := by omega
        subst this
        exact hwr l hl hh (by rw [he])
    have sgr := hr.2 _ (List.getElem_mem a0)
    have sg1 := h1.2 _ (List.getElem_mem a1)
    have sg2 := h2.2 _ (List.getElem_mem a2)
    have wg : ∀ (l o : Tx) (hl : i < l.length) (ho : i < o.length), (wr l o)[i]? = some (if o[i] = 45 then l[i] else o[i]) := fun l o hl ho => wr_get hl ho
    have lg : ∀ s : Nat, (leastL (row.set i s))[i]? = some (if s = 45 then 48 else s) := fun s => by
      rw [least_get (by rw [List.length_set]; exact a0)]
      simp
    have key : ∀ (s : Nat), Bt s → (row[i] ≠ 45 → s = row[i]) → (row[i] = 45 → s = if one[i] = 48 ∨ other[i] = 48 then 49 else 48) → ∀ l, Ltr w l → Hold row l → (wr (leastL (row.set i s)) one)[i]? = (wr (leastL (row.set i s)) other)[i]? → (wr l one)[i]? = (wr l other)[i]? := fun s hb hs1 hs2 l hl hh he => by
      have hll := hl.1
      have hLl : (leastL (row.set i s)).length = w := by rw [least_len, List.length_set]; exact lr
      have hil : i < l.length := by omega
      rw [wg _ _ (by omega) a1, wg _ _ (by omega) a2] at he
      rw [wg _ _ hil a1, wg _ _ hil a2]
      have lgs := lg s
      rw [List.getElem?_eq_getElem (by omega)] at lgs
      have lgs := Option.some.inj lgs
      rw [lgs] at he
      have hs45 : s ≠ 45 := by rcases hb with z | z <;> omega
      rw [if_neg hs45] at he
      have he := Option.some.inj he
      have hb2 := hl.2 _ (List.getElem_mem hil)
      have hold := hh i _ _ (List.getElem?_eq_getElem a0) (List.getElem?_eq_getElem hil)
      congr 1
      generalize row[i] = r at *
      generalize one[i] = x at *
      generalize other[i] = y at *
      generalize l[i] = z at *
      by_cases hr45 : r = 45
      · have hs := hs2 hr45
        by_cases hx : x = 45
        · by_cases hy : y = 45
          · simp [hx, hy]
          · rw [if_pos hx, if_neg hy] at he
            rw [hs] at he
            exfalso
            rcases sg2 with w | w | w
            · rw [if_pos (.inr w)] at he; omega
            · rw [if_neg (by rintro (h | h) <;> omega)] at he; omega
            · exact hy w
        · by_cases hy : y = 45
          · rw [if_neg hx, if_pos hy] at he
            rw [hs] at he
            exfalso
            rcases sg1 with w | w | w
            · rw [if_pos (.inl w)] at he; omega
            · rw [if_neg (by rintro (h | h) <;> omega)] at he; omega
            · exact hx w
          · rw [if_neg hx, if_neg hy] at he
            rw [if_neg hx, if_neg hy]
            exact he
      · have hs := hs1 hr45
        have hz : r = z := hold.resolve_left hr45
        rw [← hz, ← hs]
        exact he
    have finK : ∀ (s : Nat) (s4 : Sl), Bt s → (row[i] ≠ 45 → s = row[i]) → (row[i] = 45 → s = if one[i] = 48 ∨ other[i] = 48 then 49 else 48) → _ := fun s s4 hb hs1 hs2 => fin s s4 hs1 hb (key s hb hs1 hs2)
    have spc := fun s : Nat => sp_a2 (l := row) (i := i) (c := s) (by omega) a0
    by_cases hz : row[i] = 45
    · by_cases ho : one[i] = 48 ∨ other[i] = 48
      · have := finK 49 (.fr false (tx [49])) (.inr rfl) (fun h => absurd hz h) (fun _ => by rw [if_pos ho])
        have hb : (decide (one[i] = 48) || decide (other[i] = 48)) = true := by simpa using ho
        simp [ir, hz, i1, i2, in_two, hb, sz 2 (by decide), sp_to (l := row) (i := i) (by omega), sp_from (l := row) (i := i) (by omega), sp_a1 (l := row) (i := i) (by omega), spc, e_call el]
        exact this
      · have := finK 48 (.fr false (tx [48])) (.inl rfl) (fun h => absurd hz h) (fun _ => by rw [if_neg ho])
        have hb : (decide (one[i] = 48) || decide (other[i] = 48)) = false := by
          rw [Bool.eq_false_iff]
          intro h
          exact ho (by simpa using h)
        simp [ir, hz, i1, i2, in_two, hb, sz 2 (by decide), sp_to (l := row) (i := i) (by omega), sp_from (l := row) (i := i) (by omega), sp_a1 (l := row) (i := i) (by omega), spc, e_call el]
        exact this
    · have hbt : Bt row[i] := by
        rcases sgr with z | z | z
        · exact .inl z
        · exact .inr z
        · exact absurd z hz
      have := finK row[i] (.fr false (tx [row[i]])) hbt (fun _ => rfl) (fun h => absurd h hz)
      have e3 : semBin .Add (tx (row.take (i + 1))) (tx (row.drop (i + 1))) = some (false, tx row) := by
        rw [add_tx (sz _ (by rw [List.length_take, List.length_drop]; omega)), List.take_append_drop]
      simp [ir, hz, e3, sp_to (l := row) (i := i) (by omega), sp_from (l := row) (i := i) (by omega), sp_a1 (l := row) (i := i) (by omega), spc, e_call el]
      simp at this
      exact this
  · rw [hI] at h
    obtain ⟨s3, s4, s5, rfl, h⟩ := h
    try simp
    refine q1 fun l hl hh => ?_
    apply List.ext_getElem?
    intro j
    by_cases hj : j < w
    · exact h j (by simp [rngD]; omega) l hl hh
    · rw [List.getElem?_eq_none (by rw [wr_len, hl.1]; omega), List.getElem?_eq_none (by rw [wr_len, hl.1]; omega)]
end M
end En
set_option Elab.async false
set_option linter.all false
set_option maxRecDepth 100000
set_option maxHeartbeats 4000000
namespace En
open PySem L2

noncomputable def dcR (P : Ru → Prop) : Ru → Bool := fun r => @decide (P r) (Classical.propDecidable _)
theorem dcR_iff {P : Ru → Prop} {r : Ru} : dcR P r = true ↔ P r := @decide_eq_true_iff _ (Classical.propDecidable _)
theorem dcR_not {P : Ru → Prop} {r : Ru} (h : ¬ P r) : dcR P r = false := @decide_eq_false _ (Classical.propDecidable _) h
theorem deed_find (P : Ru → Prop) (rs : List Ru) (l : Tx) : deedOf P rs l = deedR (rs.find? (dcR P)) l := by
  rw [deedOf_R]
  congr 1
  unfold firstOf
  show rs[rs.findIdx (dcR P)]? = _
  induction rs with
  | nil => rfl
  | cons r rs ih =>
    rw [List.findIdx_cons, List.find?_cons]
    cases h : dcR P r with
    | true => simp
    | false => simpa using ih
theorem split_at {rs : List Ru} {n : Nat} (hn : n < rs.length) : rs = rs.take n ++ rs[n] :: rs.drop (n + 1) := by
  rw [← List.drop_eq_getElem_cons hn, List.take_append_drop]
theorem first_inv {P : Ru → Prop} {rs : List Ru} {k : Nat} (h : firstOf P rs = k) (hk : k < rs.length) : P rs[k] ∧ ∀ r ∈ rs.take k, ¬ P r := by
  subst h
  unfold firstOf at hk ⊢
  refine ⟨@of_decide_eq_true _ (Classical.propDecidable _) (List.findIdx_getElem (w := hk)), fun r hr hp => ?_⟩
  obtain ⟨i, hi, rfl⟩ := List.getElem_of_mem hr
  rw [List.length_take] at hi
  have := List.not_of_lt_findIdx (p := fun r : Ru => @decide (P r) (Classical.propDecidable _)) (xs := rs) (i := i) (by omega)
  rw [List.getElem_take] at hp
  exact absurd (@decide_eq_true _ (Classical.propDecidable _) hp) (by simpa using this)
/-- a deed without a rule -/
theorem deed_erase {P : Ru → Prop} {rs : List Ru} {n : Nat} (hn : n < rs.length) (l : Tx) : deedOf P rs l = deedOf P (rs.eraseIdx n) l ∨ ((∀ r ∈ rs.take n, ¬ P r) ∧ P rs[n] ∧ deedOf P rs l = deedR (some rs[n]) l ∧ deedOf P (rs.eraseIdx n) l = deedOf P (rs.drop (n + 1)) l) := by
  rw [deed_find, deed_find, deed_find, List.eraseIdx_eq_take_drop_succ]
  have e : rs.find? (dcR P) = (rs.take n ++ rs[n] :: rs.drop (n + 1)).find? (dcR P) := congrArg _ (split_at hn)
  rw [e, List.find?_append, List.find?_append, List.find?_cons]
  cases ha : (rs.take n).find? (dcR P) with
  | some a => left; rfl
  | none =>
    have hno : ∀ r ∈ rs.take n, ¬ P r := fun r hr hp => by
      have := List.find?_eq_none.mp ha r hr
      exact this (dcR_iff.mpr hp)
    cases hx : dcR P rs[n] with
    | true => right; exact ⟨hno, dcR_iff.mp hx, rfl, rfl⟩
    | false => left; rfl
theorem deed_not {P : Ru → Prop} {rs : List Ru} {n : Nat} (hn : n < rs.length) (l : Tx) (h : ¬ P rs[n]) : deedOf P rs l = deedOf P (rs.eraseIdx n) l := by
  rcases deed_erase (P := P) hn l with h' | ⟨_, h', _⟩
  · exact h'
  · exact absurd h' h
theorem erase_two {rs : List Ru} {i j : Nat} (h : i ≤ j) : (rs.eraseIdx i).eraseIdx j = (rs.eraseIdx (j + 1)).eraseIdx i := by
  apply List.ext_getElem?
  intro k
  simp only [List.getElem?_eraseIdx]
  repeat' split
  all_goals first | rfl | (exfalso; omega) | (congr 1; omega)
def Need (w : Nat) (rs : List Ru) (n : Nat) : Prop := ∃ l, Ltr w l ∧ deedOf (fun r => Hold r.1 l) rs l ≠ deedOf (fun r => Hold r.1 l) (rs.eraseIdx n) l
/-- what is needed stays so without a rule ahead -/
theorem need_erase {w : Nat} {rs : List Ru} {i j : Nat} (hij : i ≤ j) (hj : j + 1 < rs.length) (h : Need w rs (j + 1)) : Need w (rs.eraseIdx i) j := by
  obtain ⟨l, hl, hne⟩ := h
  refine ⟨l, hl, ?_⟩
  rcases deed_erase (P := fun r : Ru => Hold r.1 l) hj l with h' | ⟨hno, _, _, _⟩
  · exact absurd h' hne
  · have hi : i < rs.length := by omega
    have hn : ¬ Hold rs[i].1 l := hno _ (by
      rw [← List.getElem_take (j := j + 1) (h := by rw [List.length_take]; omega)]
      exact List.getElem_mem _)
    have e1 := deed_not (P := fun r : Ru => Hold r.1 l) hi l hn
    have hi2 : i < (rs.eraseIdx (j + 1)).length := by rw [List.length_eraseIdx]; split <;> omega
    have e3 : (rs.eraseIdx (j + 1))[i] = rs[i] := by
      have := List.getElem?_eraseIdx (l := rs) (i := j + 1) (j := i)
      rw [if_pos (by omega), List.getElem?_eq_getElem hi, List.getElem?_eq_getElem hi2] at this
      exact Option.some.inj this
    have e2 := deed_not (P := fun r : Ru => Hold r.1 l) hi2 l (by rw [e3]; exact hn)
    rw [erase_two hij, ← e1, ← e2]
    exact hne
def ro : Option Ru → D
  | some r => rl r
  | none => .none
@[simp] theorem is_rl (r : Ru) : isO (rl r) .none = some false := (rfl)
namespace M
def deedParts : MF := ⟨5, (.cons (.set 3 (.ks "drop") false) (.cons (.ife (.cmp .IsNot (.v 1) .kn) (.cons (.set 3 (.ix (.v 1) (.ki 1)) false) .nil) .nil) (.cons (.set 4 (.ks "drop") false) (.cons (.ife (.cmp .IsNot (.v 2) .kn) (.cons (.set 4 (.ix (.v 2) (.ki 1)) false) .nil) .nil) (.cons (.ife (.cmp .NotEq (.v 3) (.v 4)) (.cons (.ret (.call "row_least" (.cons (.v 0) .nil))) .nil) .nil) (.cons (.ife (.cmp .Eq (.v 3) (.ks "drop")) (.cons (.ret .kn) .nil) .nil) (.cons (.ret (.call "over_parts" (.cons (.v 0) (.cons (.ix (.v 1) (.ki 2)) (.cons (.ix (.v 2) (.ki 2)) .nil))))) .nil)))))))⟩
def OverAt (Γ : FT) : Prop := ∃ Γ' n, LeastAt Γ' ∧ WrittenAt Γ' ∧ Γ "over_parts" = some (3, fun ds => runF Γ' n overParts ds)
theorem deedParts_ok {Γ : FT} {n : Nat} {X : Str → Prop} {K : Rv → Prop} (hl : LeastAt Γ) (ho : OverAt Γ) {w : Nat} (hw9 : w ≤ 900) (row : Tx) (r1 : Ru) (o : Option Ru) (hr : Row w row) (h1 : RuOk w r1) (h2 : ∀ r, o = some r → RuOk w r)
    (q : ∀ d, ((d = .none ∧ ∀ l, Ltr w l → Hold row l → deedR (some r1) l = deedR o l) ∨ ∃ l, d = tx l ∧ Ltr w l ∧ Hold row l ∧ deedR (some r1) l ≠ deedR o l) → K (.fr false d)) : RS X (runF Γ n deedParts [tx row, rl r1, ro o]) K := by
  have el := hl
  obtain ⟨Γ2, n2, hl2, hw2, e2⟩ := ho
  have lrow := hr.1
  have lst : ∀ {w1 : Tx}, (∀ l, deedR (some r1) l ≠ deedR o l) → K (.fr false (tx (leastL row))) := fun hne => q _ (.inr ⟨_, rfl, least_ltr hr, least_hold row, hne _⟩)
  refine rs_run ?_
  cases o with
  | none =>
    rcases h1.2.2 with e1 | e1
    · simp [deedParts, startE, ro, rl1, e1, e_call el]
      refine least_ok _ (by omega) ?_
      simp
      exact lst (w1 := []) fun l => by simp [deedR, e1]; exact pass_drop _
    · simp [deedParts, startE, ro, rl1, e1, e_call el]
      exact q _ (.inl ⟨rfl, fun l _ _ => by simp [deedR, e1]⟩)
  | some r2 =>
    have h2 := h2 r2 rfl
    rcases h1.2.2 with e1 | e1 <;> rcases h2.2.2 with e3 | e3
    · simp [deedParts, startE, ro, rl1, rl2, e1, e3, e_call el, e_call e2]
      refine overParts_ok (Γ := Γ2) hl2 hw2 hw9 row _ _ hr h1.2.1 h2.2.1 (fun hs => ?_) (fun l hl hh hne => ?_)
      · simp
        exact q _ (.inl ⟨rfl, fun l hl hh => by simp [deedR, e1, e3, hs l hl hh]⟩)
      · simp
        refine q _ (.inr ⟨l, rfl, hl, hh, ?_⟩)
        simp only [deedR, e1, e3, if_neg pass_ne]
        exact fun h => hne (tx_ne h)
    · simp [deedParts, startE, ro, rl1, e1, e3, e_call el]
      refine least_ok _ (by omega) ?_
      simp
      exact lst (w1 := []) fun l => by simp [deedR, e1, e3]; exact pass_drop _
    · have hdp : ¬ dropT = passT := by decide
      simp [deedParts, startE, ro, rl1, e1, e3, e_call el, hdp]
      refine least_ok _ (by omega) ?_
      simp
      exact lst (w1 := []) fun l => by simp [deedR, e1, e3]; exact fun h => pass_drop _ h.symm
    · simp [deedParts, startE, ro, rl1, e1, e3, e_call el]
      exact q _ (.inl ⟨rfl, fun l _ _ => by simp [deedR, e1, e3]⟩)
def ruleNeeded : MF := ⟨10, (.cons (.ife (.bop false (.cons (.cmp .Lt (.v 1) (.ki 0)) (.cons (.cmp .GtE (.v 1) (.bi "len" (.cons (.v 0) .nil))) .nil))) (.cons (.never) .nil) .nil) (.cons (.set 3 (.sl (.v 0) (.so (.bin .Add (.v 1) (.ki 1))) .no) false) (.cons (.for_ (.t [4, 5]) (.e (.call "rule_shares" (.cons (.sl (.v 0) .no (.so (.bin .Add (.v 1) (.ki 1)))) (.cons (.bin .Mult (.ks "-") (.v 2)) .nil)))) (.cons (.ife (.cmp .Eq (.v 5) (.v 1)) (.cons (.for_ (.t [6, 7]) (.e (.call "rule_shares" (.cons (.v 3) (.cons (.v 4) .nil)))) (.cons (.set 8 .kn false) (.cons (.ife (.cmp .Lt (.v 7) (.bi "len" (.cons (.v 3) .nil))) (.cons (.set 8 (.ix (.v 3) (.v 7)) false) .nil) .nil) (.cons (.set 9 (.call "deed_parts" (.cons (.v 6) (.cons (.ix (.v 0) (.v 1)) (.cons (.v 8) .nil)))) false) (.cons (.ife (.cmp .IsNot (.v 9) .kn) (.cons (.ret (.v 9)) .nil) .nil) .nil))))) .nil) .nil) .nil)) (.cons (.ret .kn) .nil))))⟩
def RuleSharesAt (Γ : FT) : Prop := ∃ Γ' n, MeetAt Γ' ∧ LessAt Γ' ∧ Γ "rule_shares" = some (2, fun ds => runF Γ' n ruleShares ds)
def DeedPartsAt (Γ : FT) : Prop := ∃ Γ' n, LeastAt Γ' ∧ OverAt Γ' ∧ Γ "deed_parts" = some (3, fun ds => runF Γ' n deedParts ds)
theorem ruleNeeded_ok {Γ : FT} {n : Nat} {X : Str → Prop} {K : Rv → Prop} (hs : RuleSharesAt Γ) (hd : DeedPartsAt Γ) {w : Nat} {ps : List Nat} (hw9 : w ≤ 900) (hps : ps.length ≤ 8) (rs : List Ru) (k : Nat) (hk : k < rs.length) (hrl : rs.length ≤ 1000) (hrs : ∀ r ∈ rs, RuOk w r) (hts : ∀ r ∈ rs, ∀ i x : Nat, r.1[i]? = some x → x ≠ 45 → i ∈ ps)
    (q : ∀ d, ((d = .none ∧ ∀ l, Ltr w l → deedOf (fun r => Hold r.1 l) rs l = deedOf (fun r => Hold r.1 l) (rs.eraseIdx k) l) ∨ ∃ l, d = tx l ∧ Need w rs k) → K (.fr false d)) : RS X (runF Γ n ruleNeeded [.list (rs.map rl), .int (k : Int), .int (w : Int)]) K := by
  obtain ⟨Γ1, n1, hm1, hl1, e1⟩ := hs
  obtain ⟨Γ2, n2, hl2, ho2, e2⟩ := hd
  have ct : cutL (rs.map rl) none (some ((k : Int) + 1)) = (rs.take (k + 1)).map rl := by
    rw [show (k : Int) + 1 = ((k + 1 : Nat) : Int) by omega, cut_to, List.map_take]
  have cf : cutL (rs.map rl) (some ((k : Int) + 1)) none = (rs.drop (k + 1)).map rl := by
    rw [show (k : Int) + 1 = ((k + 1 : Nat) : Int) by omega, cut_from, List.map_drop]
  have c1 : ¬ ((k : Int) < 0) := by omega
  have c2 : ¬ ((rs.length : Int) ≤ (k : Int)) := by omega
  have hbe : ∀ r ∈ rs.drop (k + 1), r ∈ rs := fun r h => List.mem_of_mem_drop h
  have hta : ∀ r ∈ rs.take (k + 1), r ∈ rs := fun r h => List.mem_of_mem_take h
  have lb : (rs.drop (k + 1)).length ≤ 1000 := by rw [List.length_drop]; omega
  have atk := rl_at hk
  have hrk := hrs _ (List.getElem_mem hk)
  have ftk : (rs.take (k + 1)) = rs.take k ++ [rs[k]] := take_get (List.getElem?_eq_getElem hk)
  refine rs_run ?_
  simp [ruleNeeded, startE, ct, cf, c1, c2, e_call e1, dashes (n := w) (by omega)]
  rw [← List.map_take, ← List.map_drop]
  refine ruleShares_ok (Γ := Γ1) hm1 hl1 (w := w) (ps := ps) hw9 hps (rs.take (k + 1)) (List.replicate w 45) (fun r h => (hrs r (hta r h)).1) (fun r h => hts r (hta r h)) (dash_row w) (fun i x e nn => absurd (List.eq_of_mem_replicate (List.mem_of_getElem? e)) nn) fun fd S => ?_
  generalize hB : rs.drop (k + 1) = B at *
  simp
  obtain ⟨I, hI⟩ : ∃ I : Nat → List Sl → Prop, ∀ i e, I i e = ∃ (s4 s5 s6 s7 s8 s9 : Sl), e = [.fr true (.list (rs.map rl)), .fr false (.int (k : Int)), .fr false (.int (w : Int)), .fr true (.list (B.map rl)), s4, s5, s6, s7, s8, s9] ∧ ∀ f ∈ fd.take i, f.2 = k → ∀ l, Ltr w l → Hold f.1 l → deedR (some rs[k]) l = deedOf (fun r => Hold r.1 l) B l := ⟨_, fun _ _ => rfl⟩
  refine fs_for I ?_ (fun i d e hd h => ?_) (fun e h => ?_)
  · rw [hI]
    exact ⟨_, _, _, _, _, _, rfl, by simp⟩
  · rw [hI] at h
    obtain ⟨s4, s5, s6, s7, s8, s9, rfl, h⟩ := h
    obtain ⟨hi, rfl⟩ := map_at hd
    have g := take_get (List.getElem?_eq_getElem hi)
    have hm := List.getElem_mem hi
    have hfr := S.pcs.row _ (List.mem_map_of_mem (f := fun x : Tx × Nat => x.1) hm)
    have hft := S.pcs.tell _ (List.mem_map_of_mem (f := fun x : Tx × Nat => x.1) hm)
    have hnum := S.num _ hm
    generalize fd[i] = f at *
    simp [sh, e_call e1]
    refine ⟨fun hf => ?_, fun hf => ?_⟩
    · have hf : f.2 = k := by omega
      refine ruleShares_ok (Γ := Γ1) hm1 hl1 (w := w) (ps := ps) hw9 hps B f.1 (fun r h => (hrs r (hbe r h)).1) (fun r h => hts r (hbe r h)) hfr hft fun gd T => ?_
      simp
      obtain ⟨J, hJ⟩ : ∃ J : Nat → List Sl → Prop, ∀ j e, J j e = ∃ (s6 s7 s8 s9 : Sl), e = [.fr true (.list (rs.map rl)), .fr false (.int (k : Int)), .fr false (.int (w : Int)), .fr true (.list (B.map rl)), .fr false (tx f.1), .fr false (.int (f.2 : Int)), s6, s7, s8, s9] ∧ ∀ g ∈ gd.take j, ∀ l, Ltr w l → Hold g.1 l → deedR (some rs[k]) l = deedOf (fun r => Hold r.1 l) B l := ⟨_, fun _ _ => rfl⟩
      refine fs_for J ?_ (fun j d e hd h' => ?_) (fun e h' => ?_)
      · rw [hJ]
        exact ⟨_, _, _, _, rfl, by simp⟩
      · rw [hJ] at h'
        obtain ⟨s6, s7, s8, s9, rfl, h'⟩ := h'
        obtain ⟨hj, rfl⟩ := map_at hd
        have gg := take_get (List.getElem?_eq_getElem hj)
        have hm' := List.getElem_mem hj
        have hgr := T.pcs.row _ (List.mem_map_of_mem (f := fun x : Tx × Nat => x.1) hm')
        have hgc := fun (l : Tx) (hl : Ltr w l) (hh : Hold gd[j].1 l) => (T.pcs.cov l hl).mp ⟨_, List.mem_map_of_mem (f := fun x : Tx × Nat => x.1) hm', hh⟩
        have hgn := T.num _ hm'
        generalize gd[j] = gp at *
        have dB : ∀ l, Ltr w l → Hold gp.1 l → deedR B[gp.2]? l = deedOf (fun r => Hold r.1 l) B l := fun l hl hh => by rw [deedOf_R, hgn l hl hh]
        have rest : ∀ (m8 : Bool) (s8 : D), s8 = ro B[gp.2]? → RS X (evE Γ [.fr true (.list (rs.map rl)), .fr false (.int (k : Int)), .fr false (.int (w : Int)), .fr true (.list (B.map rl)), .fr false (tx f.1), .fr false (.int (f.2 : Int)), .fr false (tx gp.1), .fr false (.int (gp.2 : Int)), .fr m8 s8, s9] (.call "deed_parts" (.cons (.v 6) (.cons (.ix (.v 0) (.v 1)) (.cons (.v 8) .nil))))) fun a => ∃ d, a = .fr false d ∧ ((d = .none ∧ J (j + 1) [.fr true (.list (rs.map rl)), .fr false (.int (k : Int)), .fr false (.int (w : Int)), .fr true (.list (B.map rl)), .fr false (tx f.1), .fr false (.int (f.2 : Int)), .fr false (tx gp.1), .fr false (.int (gp.2 : Int)), .fr m8 s8, .fr false d]) ∨ ∃ l, d = tx l ∧ K (.fr false d)) := fun m8 s8 e8 => by
          subst e8
          simp [e_call e2, atk]
          refine deedParts_ok (Γ := Γ2) hl2 ho2 hw9 gp.1 rs[k] B[gp.2]? hgr hrk (fun r hr => hrs r (hbe r (List.mem_of_getElem? hr))) fun d hdd => ?_
          rcases hdd with ⟨rfl, hs⟩ | ⟨l, rfl, hl, hh, hne⟩
          · simp
            refine .inl ?_
            rw [hJ]
            refine ⟨_, _, _, _, rfl, fun g hg l hl hh => ?_⟩
            rw [gg] at hg
            rcases List.mem_append.mp hg with hg | hg
            · exact h' g hg l hl hh
            · rw [List.mem_singleton.mp hg] at hh
              rw [hs l hl hh, dB l hl hh]
          · simp
            refine .inr ⟨⟨l, rfl⟩, q _ (.inr ⟨l, rfl, l, hl, ?_⟩)⟩
            have hfl : Hold f.1 l := hgc l hl hh
            have hfi := hnum l hl hfl
            rw [hf] at hfi
            have hlt : k < (rs.take (k + 1)).length := by rw [List.length_take]; omega
            obtain ⟨hPk, hno⟩ := first_inv (P := fun r : Ru => Hold r.1 l) hfi hlt
            have e3 : (rs.take (k + 1))[k] = rs[k] := List.getElem_take
            rw [e3] at hPk
            rw [List.take_take, Nat.min_eq_left (by omega)] at hno
            rcases deed_erase (P := fun r : Ru => Hold r.1 l) hk l with he | ⟨_, _, h3, h4⟩
            · exfalso
              rw [deed_find, deed_find, List.eraseIdx_eq_take_drop_succ] at he
              have e5 : rs.find? (dcR fun r : Ru => Hold r.1 l) = some rs[k] := by
                rw [congrArg (List.find? (dcR fun r : Ru => Hold r.1 l)) (split_at hk), List.find?_append, List.find?_eq_none.mpr fun r hr => by rw [dcR_not (hno r hr)]; decide, List.find?_cons, dcR_iff.mpr hPk]
                rfl
              have e6 : (rs.take k ++ rs.drop (k + 1)).find? (dcR fun r : Ru => Hold r.1 l) = B.find? (dcR fun r : Ru => Hold r.1 l) := by
                rw [List.find?_append, List.find?_eq_none.mpr fun r hr => by rw [dcR_not (hno r hr)]; decide, hB]
                rfl
              rw [e5, e6, ← deed_find, ← dB l hl hh] at he
              exact hne he
            · rw [h3, h4, hB, ← dB l hl hh]
              exact hne
        by_cases hlt : gp.2 < B.length
        · have hg : B[gp.2]? = some B[gp.2] := List.getElem?_eq_getElem hlt
          have r := rest true (rl B[gp.2]) (by rw [hg]; rfl)
          have at2 := rl_at hlt
          have c3 : ((gp.2 : Int) < (B.length : Int)) := by omega
          simp [sh, c3, at2]
          refine rs_imp r ?_
          rintro _ ⟨d, rfl, ⟨rfl, hj⟩ | ⟨l, rfl, hk⟩⟩
          · simp
            exact hj
          · simp
            exact hk
        · have hg : B[gp.2]? = none := List.getElem?_eq_none (by omega)
          have r := rest false .none (by rw [hg]; rfl)
          have c3 : ¬ ((gp.2 : Int) < (B.length : Int)) := by omega
          simp [sh, c3]
          refine rs_imp r ?_
          rintro _ ⟨d, rfl, ⟨rfl, hj⟩ | ⟨l, rfl, hk⟩⟩
          · simp
            exact hj
          · simp
            exact hk
      · rw [hJ] at h'
        obtain ⟨s6, s7, s8, s9, rfl, h'⟩ := h'
        rw [List.length_map, List.take_of_length_le (Nat.le_refl _)] at h'
        rw [hI]
        refine ⟨_, _, _, _, _, _, rfl, fun f' hf' hk' l hl hh => ?_⟩
        rw [g] at hf'
        rcases List.mem_append.mp hf' with hf' | hf'
        · exact h f' hf' hk' l hl hh
        · rw [List.mem_singleton.mp hf'] at hh
          obtain ⟨gr, hgr, hg2⟩ := (T.pcs.cov l hl).mpr hh
          obtain ⟨gp, hgp, rfl⟩ := List.mem_map.mp hgr
          exact h' gp hgp l hl hg2
    · rw [hI]
      refine ⟨_, _, _, _, _, _, rfl, fun f' hf' hk' l hl hh => ?_⟩
      rw [g] at hf'
      rcases List.mem_append.mp hf' with hf' | hf'
      · exact h f' hf' hk' l hl hh
      · rw [List.mem_singleton.mp hf'] at hk'
        exact absurd (by exact_mod_cast hk') hf
  · rw [hI] at h
    obtain ⟨s4, s5, s6, s7, s8, s9, rfl, h⟩ := h
    rw [List.length_map, List.take_of_length_le (Nat.le_refl _)] at h
    try simp
    refine q _ (.inl ⟨rfl, fun l hl => ?_⟩)
    rcases deed_erase (P := fun r : Ru => Hold r.1 l) hk l with he | ⟨hno, hPk, h3, h4⟩
    · exact he
    · rw [h3, h4, hB]
      obtain ⟨fr, hfr, hh⟩ := (S.pcs.cov l hl).mpr (hold_dash w l)
      obtain ⟨f, hf, rfl⟩ := List.mem_map.mp hfr
      refine h f hf ?_ l hl hh
      rw [← S.num f hf l hl hh]
      refine first_at (P := fun r : Ru => Hold r.1 l) (i := k) (fun r hr => ?_) (by rw [List.length_take]; omega) ?_
      · rw [List.take_take, Nat.min_eq_left (by omega)] at hr
        exact hno r hr
      · have e3 : (rs.take (k + 1))[k]'(by rw [List.length_take]; omega) = rs[k] := List.getElem_take
        rw [e3]
        exact hPk
end M
end En
set_option Elab.async false
set_option linter.all false
set_option maxRecDepth 100000
set_option maxHeartbeats 4000000
namespace En
open PySem L2

theorem eq_rl {m : Nat} {a b : Ru} (ha : RuOk m a) (hb : RuOk m b) : eqO (rl a) (rl b) = some (decide (a = b)) := by
  have sa := (nc_rl ha).shp (by decide)
  have sb := (nc_rl hb).shp (by decide)
  have e : (shp (rl a) && shp (rl b)) = true := by rw [sa, sb]; rfl
  show (if (shp (rl a) && shp (rl b)) = true then some (PyData.eqv (rl a) (rl b)) else none) = _
  rw [if_pos e]
  congr 1
  obtain ⟨a1, a2, a3⟩ := a
  obtain ⟨b1, b2, b3⟩ := b
  rw [Bool.eq_iff_iff]
  simp [rl, PyData.eqv, PyData.eqvAll, eqv_tx]
/-! ### deeds side by side -/
def DeedF (d : D) : Prop := d = dropD ∨ ∃ x, Sm x ∧ d = .tuple [tx passT, tx x]
theorem deedF_nc {d : D} (h : DeedF d) : Nc 1 d := by
  rcases h with rfl | ⟨x, hx, rfl⟩
  · exact nc_two nc_drop nc_none
  · exact nc_two nc_pass (nc_sm hx)
theorem deedF_eqv {a b : D} (ha : DeedF a) (hb : DeedF b) : PyData.eqv a b = true ↔ a = b := by
  rcases ha with rfl | ⟨x, _, rfl⟩ <;> rcases hb with rfl | ⟨y, _, rfl⟩
  · simp [dropD, PyData.eqv, PyData.eqvAll, eqv_tx]
  · refine ⟨fun h => ?_, fun h => absurd h.symm (pass_drop y)⟩
    simp only [dropD, PyData.eqv, PyData.eqvAll, eqv_tx] at h
    rw [show decide (dropT = passT) = false by decide] at h
    cases h
  · refine ⟨fun h => ?_, fun h => absurd h (pass_drop x)⟩
    simp only [dropD, PyData.eqv, PyData.eqvAll, eqv_tx] at h
    rw [show decide (passT = dropT) = false by decide] at h
    cases h
  · refine ⟨fun h => ?_, fun h => ?_⟩
    · simp [PyData.eqv, PyData.eqvAll, eqv_tx] at h
      rw [h]
    · rw [tx_ne h]
      simp [PyData.eqv, PyData.eqvAll, eqv_tx]
theorem deedF_all : ∀ {A B : List D}, (∀ a ∈ A, DeedF a) → (∀ b ∈ B, DeedF b) → (PyData.eqvAll A B = true ↔ A = B)
  | [], [], _, _ => by simp [PyData.eqvAll]
  | [], b :: B, _, _ => by simp [PyData.eqvAll]
  | a :: A, [], _, _ => by simp [PyData.eqvAll]
  | a :: A, b :: B, ha, hb => by
    have h1 := deedF_eqv (ha a List.mem_cons_self) (hb b List.mem_cons_self)
    have h2 := deedF_all (fun x hx => ha x (List.mem_cons_of_mem _ hx)) (fun x hx => hb x (List.mem_cons_of_mem _ hx))
    simp only [PyData.eqvAll, Bool.and_eq_true, List.cons.injEq]
    rw [h1, h2]
theorem eq_deeds {A B : List D} (ha : ∀ a ∈ A, DeedF a) (hb : ∀ b ∈ B, DeedF b) : ∃ t : Bool, eqO (.list A) (.list B) = some t ∧ (t = true ↔ A = B) := by
  have sa := (nc_list (k := 1) fun d hd => deedF_nc (ha d hd)).shp (by decide)
  have sb := (nc_list (k := 1) fun d hd => deedF_nc (hb d hd)).shp (by decide)
  have e : (shp (.list A) && shp (.list B)) = true := by rw [sa, sb]; rfl
  refine ⟨PyData.eqv (.list A) (.list B), ?_, ?_⟩
  · show (if (shp (.list A) && shp (.list B)) = true then some (PyData.eqv (.list A) (.list B)) else none) = _
    rw [if_pos e]
  · rw [PyData.eqv, deedF_all ha hb]
    first | done | simp
theorem row_sm {w : Nat} {r : Tx} (h : Row w r) : Sm r := fun c hc => sg_small (h.2 c hc)
theorem deedF_of {m : Nat} (P : Ru → Prop) {rs : List Ru} (hr : ∀ r ∈ rs, RuOk m r) {c : Tx} (hc : Ltr m c) : DeedF (deedOf P rs c) := by
  rw [deedOf_R]
  cases e : rs[firstOf P rs]? with
  | none => exact .inl rfl
  | some r =>
    show DeedF (if r.2.1 = dropT then dropD else .tuple [tx passT, tx (wr c r.2.2)])
    split
    · exact .inl rfl
    · exact .inr ⟨_, row_sm (wr_row hc.row (hr r (List.mem_of_getElem? e)).2.1), rfl⟩
theorem spread_self {w : Nat} {ps : List Nat} (pn : ps.Nodup) (pw : ∀ p ∈ ps, p < w) {l : Tx} (hl : l.length = w) : spreadL (atS ps l) ps l = l := by
  apply List.ext_getElem?
  intro q
  by_cases hm : q ∈ ps
  · obtain ⟨i, hi, ei⟩ := List.getElem_of_mem hm
    have ei' : ps[i]? = some q := by rw [List.getElem?_eq_getElem hi, ei]
    have hq : q < l.length := by rw [hl]; exact pw q hm
    have := List.getElem?_eq_getElem hq
    rw [spread_get pn (fun p h => by rw [hl]; exact pw p h) ei' (atS_get ei'), getD_of this, this]
  · rw [spread_other hm]
/-- unlike at the places or unlike at all -/
theorem deed_same {w : Nat} {ps : List Nat} (pn : ps.Nodup) (pw : ∀ p ∈ ps, p < w) {L1 L2 : List Ru} (h1 : ∀ r ∈ L1, RuOk ps.length r) (h2 : ∀ r ∈ L2, RuOk ps.length r) {c b : Tx} (hc : Ltr ps.length c) (hb : Ltr w b) :
    deedOf (fun r => ¬ Cl r.1 c) L1 c = deedOf (fun r => ¬ Cl r.1 c) L2 c ↔ deedOf (fun r => Hold r.1 (spreadL c ps b)) (L1.map (wideL w ps)) (spreadL c ps b) = deedOf (fun r => Hold r.1 (spreadL c ps b)) (L2.map (wideL w ps)) (spreadL c ps b) := by
  rcases deed_wide pn pw h1 hc hb with ⟨a1, a2⟩ | ⟨x, hx, a1, a2⟩ <;> rcases deed_wide pn pw h2 hc hb with ⟨b1, b2⟩ | ⟨y, hy, b1, b2⟩ <;> rw [a1, a2, b1, b2]
  · exact ⟨fun h => absurd h.symm (pass_drop _), fun h => absurd h.symm (pass_drop _)⟩
  · exact ⟨fun h => absurd h (pass_drop _), fun h => absurd h (pass_drop _)⟩
  · constructor
    · intro h
      rw [tx_ne h]
    · intro h
      have := congrArg (atS ps) (tx_ne h)
      rw [atS_spread pn pw hx.1 hb.1, atS_spread pn pw hy.1 hb.1] at this
      rw [this]
namespace M
def rulesThinned : MF := ⟨4, (.cons (.set 2 (.bi "list" (.cons (.v 0) .nil)) true) (.cons (.set 3 (.bin .Sub (.bi "len" (.cons (.v 2) .nil)) (.ki 1)) false) (.cons (.whl (.cmp .GtE (.v 3) (.ki 0)) (.cons (.ife (.cmp .Is (.call "rule_needed" (.cons (.v 2) (.cons (.v 3) (.cons (.v 1) .nil)))) .kn) (.cons (.set 2 (.bin .Add (.sl (.v 2) .no (.so (.v 3))) (.sl (.v 2) (.so (.bin .Add (.v 3) (.ki 1))) .no)) true) .nil) .nil) (.cons (.set 3 (.bin .Sub (.v 3) (.ki 1)) false) .nil))) (.cons (.reto 2) .nil))))⟩
def RuleNeededAt (Γ : FT) : Prop := ∃ Γ' n, RuleSharesAt Γ' ∧ DeedPartsAt Γ' ∧ Γ "rule_needed" = some (3, fun ds => runF Γ' n ruleNeeded ds)
theorem rulesThinned_ok {Γ : FT} {n : Nat} {X : Str → Prop} {K : Rv → Prop} (hn : RuleNeededAt Γ) (hfu : 1000 ≤ n) {w : Nat} {ps : List Nat} (hw9 : w ≤ 900) (hps : ps.length ≤ 8) (rs : List Ru) (hrl : rs.length ≤ 900) (hrs : ∀ r ∈ rs, RuOk w r) (hts : ∀ r ∈ rs, ∀ i x : Nat, r.1[i]? = some x → x ≠ 45 → i ∈ ps)
    (q : ∀ (m : Bool) (left : List Ru), left.Sublist rs → (∀ l, Ltr w l → deedOf (fun r => Hold r.1 l) left l = deedOf (fun r => Hold r.1 l) rs l) → (∀ k, k < left.length → Need w left k) → K (.ow m (.list (left.map rl)))) : RS X (runF Γ n rulesThinned [.list (rs.map rl), .int (w : Int)]) K := by
  obtain ⟨Γ1, n1, hs1, hd1, e1⟩ := hn
  refine rs_run ?_
  simp [rulesThinned, startE]
  obtain ⟨I, hI⟩ : ∃ I : Nat → List Sl → Prop, ∀ i e, I i e = ∃ (m : Bool) (left : List Ru) (L : D) (z : Int), e = [.fr true (.list (rs.map rl)), .fr false (.int (w : Int)), .ow m L, .fr false (.int z)] ∧ L = .list (left.map rl) ∧ z = (i : Int) - 1 ∧ i ≤ left.length ∧ left.Sublist rs ∧ (∀ l, Ltr w l → deedOf (fun r => Hold r.1 l) left l = deedOf (fun r => Hold r.1 l) rs l) ∧ ∀ k, i ≤ k → k < left.length → Need w left k := ⟨_, fun _ _ => rfl⟩
  refine fs_whl I (m := rs.length) ?_ (by omega) fun i e h => ?_
  · rw [hI]
    exact ⟨_, rs, _, _, rfl, rfl, rfl, Nat.le_refl _, List.Sublist.refl _, fun _ _ => rfl, fun k h1 h2 => absurd h2 (by omega)⟩
  · rw [hI] at h
    obtain ⟨m, left, L, z, rfl, rfl, rfl, hil, hsub, hde, hne⟩ := h
    simp
    refine ⟨fun hi => ?_, fun hi => ?_⟩
    · obtain ⟨j, rfl⟩ : ∃ j, i = j + 1 := ⟨i - 1, by omega⟩
      have hlen := hsub.length_le
      have hjl : j < left.length := by omega
      have ej : ((j + 1 : Nat) : Int) - 1 = (j : Int) := by omega
      rw [ej]
      have ct : cutL (left.map rl) none (some (j : Int)) = (left.take j).map rl := by rw [cut_to, List.map_take]
      have cf : cutL (left.map rl) (some ((j : Int) + 1)) none = (left.drop (j + 1)).map rl := by
        rw [show (j : Int) + 1 = ((j + 1 : Nat) : Int) by omega, cut_from, List.map_drop]
      have ad : semBin .Add (.list ((left.take j).map rl)) (.list ((left.drop (j + 1)).map rl)) = some (true, .list ((left.eraseIdx j).map rl)) := by
        rw [add_list (sz _ (by rw [List.length_map, List.length_map, List.length_take, List.length_drop]; omega)), ← List.map_append, List.eraseIdx_eq_take_drop_succ]
      simp [-List.map_take, -List.map_drop, e_call e1]
      refine ruleNeeded_ok (Γ := Γ1) hs1 hd1 (w := w) (ps := ps) hw9 hps left j hjl (by omega) (fun r h => hrs r (hsub.subset h)) (fun r h => hts r (hsub.subset h)) fun d hd => ?_
      rcases hd with ⟨rfl, hd⟩ | ⟨l, rfl, hd⟩
      · simp [-List.map_take, -List.map_drop, ct, cf, ad]
        refine ⟨j, by omega, ?_⟩
        rw [hI]
        refine ⟨_, left.eraseIdx j, _, _, rfl, rfl, rfl, by rw [List.length_eraseIdx, if_pos hjl]; omega, (List.eraseIdx_sublist left j).trans hsub, fun l hl => by rw [← hd l hl]; exact hde l hl, fun k hk1 hk2 => ?_⟩
        rw [List.length_eraseIdx, if_pos hjl] at hk2
        exact need_erase hk1 (by omega) (hne (k + 1) (by omega) (by omega))
      · simp
        refine ⟨j, by omega, ?_⟩
        rw [hI]
        refine ⟨_, left, _, _, rfl, rfl, rfl, by omega, hsub, hde, fun k hk1 hk2 => ?_⟩
        by_cases hkj : k = j
        · rw [hkj]; exact hd
        · exact hne k (by omega) hk2
    · have : i = 0 := by omega
      subst this
      exact q m left hsub hde fun k hk => hne k (Nat.zero_le _) hk
def back : MF := ⟨7, (.cons (.set 4 (.lst .nil) true) (.cons (.set 5 (.ki 0) false) (.cons (.for_ (.n 6) (.e (.v 3)) (.cons (.whl (.bop true (.cons (.cmp .Lt (.v 5) (.bi "len" (.cons (.v 0) .nil))) (.cons (.cmp .NotEq (.ix (.v 0) (.v 5)) (.v 6)) .nil))) (.cons (.set 5 (.bin .Add (.v 5) (.ki 1)) false) .nil)) (.cons (.ife (.bop false (.cons (.cmp .Eq (.v 5) (.bi "len" (.cons (.v 0) .nil))) (.cons (.not_ (.isi (.v 6) "tuple")) .nil))) (.cons (.ret .kn) .nil) .nil) (.cons (.app 4 (.ix (.v 1) (.v 5))) (.cons (.set 5 (.bin .Add (.v 5) (.ki 1)) false) .nil))))) (.cons (.reto 4) .nil))))⟩
theorem back_ok {Γ : FT} {n : Nat} {X : Str → Prop} {K : Rv → Prop} (hfu : 1000 ≤ n) {m : Nat} (f : Ru → Ru) (rs fd : List Ru) (P : D) (hrl : rs.length ≤ 900) (hrs : ∀ r ∈ rs, RuOk m (f r)) (hsub : fd.Sublist (rs.map f))
    (q : ∀ left : List Ru, left.map f = fd → (∀ r ∈ left, r ∈ rs) → K (.ow false (.list (left.map rl)))) : RS X (runF Γ n back [.list ((rs.map f).map rl), .list (rs.map rl), P, .list (fd.map rl)]) K := by
  generalize hw : rs.map f = wd at *
  have wlen : wd.length = rs.length := by rw [← hw, List.length_map]
  have wok : ∀ r ∈ wd, RuOk m r := fun r hr => by
    rw [← hw] at hr
    obtain ⟨s, hs, rfl⟩ := List.mem_map.mp hr
    exact hrs s hs
  have flen := hsub.length_le
  refine rs_run ?_
  simp [back, startE]
  obtain ⟨I, hI⟩ : ∃ I : Nat → List Sl → Prop, ∀ i e, I i e = ∃ (s6 : Sl) (mp : Bool) (k : Nat) (left : List Ru) (L : D), e = [.fr true (.list (wd.map rl)), .fr true (.list (rs.map rl)), .fr mp P, .fr true (.list (fd.map rl)), .ow false L, .fr false (.int (k : Int)), s6] ∧ L = .list (left.map rl) ∧ left.map f = fd.take i ∧ (∀ r ∈ left, r ∈ rs) ∧ k ≤ wd.length ∧ (fd.drop i).Sublist (wd.drop k) := ⟨_, fun _ _ => rfl⟩
  refine fs_for I ?_ (fun i d e hd h => ?_) (fun e h => ?_)
  · rw [hI]
    exact ⟨_, _, 0, [], _, rfl, rfl, rfl, by simp, Nat.zero_le _, by simpa using hsub⟩
  · rw [hI] at h
    obtain ⟨s6, mp, k, left, L, rfl, rfl, hle, hlm, hk, hs⟩ := h
    obtain ⟨hi, rfl⟩ := map_at hd
    have g := take_get (List.getElem?_eq_getElem hi)
    rw [List.drop_eq_getElem_cons hi] at hs
    have hxm := hsub.subset (List.getElem_mem hi)
    have hxo := wok _ hxm
    generalize hx : fd[i] = x at *
    have ll : left.length ≤ 900 := by
      have := congrArg List.length hle
      rw [List.length_map, List.length_take] at this
      omega
    simp
    obtain ⟨J, hJ⟩ : ∃ J : Nat → List Sl → Prop, ∀ j e, J j e = ∃ k : Nat, e = [.fr true (.list (wd.map rl)), .fr true (.list (rs.map rl)), .fr mp P, .fr true (.list (fd.map rl)), .ow false (.list (left.map rl)), .fr false (.int (k : Int)), .fr true (rl x)] ∧ j + k = wd.length ∧ (x :: fd.drop (i + 1)).Sublist (wd.drop k) := ⟨_, fun _ _ => rfl⟩
    refine fs_whl J (m := wd.length - k) ?_ (by omega) fun j e h => ?_
    · rw [hJ]
      exact ⟨k, rfl, by omega, hs⟩
    · rw [hJ] at h
      obtain ⟨k, rfl, hjk, hs⟩ := h
      have hkl : k < wd.length := by
        refine Classical.byContradiction fun hn => ?_
        have e0 : wd.drop k = [] := List.drop_eq_nil_of_le (by omega)
        rw [e0] at hs
        cases hs
      have hklr : k < rs.length := by omega
      rw [List.drop_eq_getElem_cons hkl] at hs
      have wa := rl_at hkl
      have ra := rl_at hklr
      have eqx := eq_rl (wok _ (List.getElem_mem hkl)) hxo
      have hfk : wd[k] = f rs[k] := by simp only [← hw, List.getElem_map]
      have c1 : ((k : Int) < (wd.length : Int)) := by omega
      have c2 : ¬ ((k : Int) = (wd.length : Int)) := by omega
      by_cases he : wd[k] = x
      · have hs' : (fd.drop (i + 1)).Sublist (wd.drop (k + 1)) := by
          rw [he] at hs
          exact List.cons_sublist_cons.mp hs
        have lz : left.length < sizeLine := slt (by omega)
        rw [he] at eqx wa
        simp [c1, wa, eqx]
        simp [c2, ra, rl, lz]
        rw [hI]
        refine ⟨_, _, k + 1, left ++ [rs[k]], _, rfl, by simp [rl], ?_, fun r hr => ?_, by omega, hs'⟩
        · rw [g, List.map_append, hle, List.map_cons, ← hfk, he]
          rfl
        · rcases List.mem_append.mp hr with hr | hr
          · exact hlm r hr
          · rw [List.mem_singleton.mp hr]; exact List.getElem_mem _
      · have hs' : (x :: fd.drop (i + 1)).Sublist (wd.drop (k + 1)) := by
          cases hs with
          | cons _ h => exact h
          | cons_cons _ h => exact absurd rfl he
        simp [c1, wa, eqx, he]
        refine ⟨j - 1, by omega, ?_⟩
        rw [hJ]
        exact ⟨k + 1, rfl, by omega, hs'⟩
  · rw [hI] at h
    obtain ⟨s6, mp, k, left, L, rfl, rfl, hle, hlm, hk, hs⟩ := h
    rw [List.length_map, List.take_of_length_le (Nat.le_refl _)] at hle
    simp
    exact q left hle hlm
def deeds : MF := ⟨3, (.cons (.ret (.lc (.n 2) (.e (.v 1)) .no (.call "_law_deed" (.cons (.v 0) (.cons (.v 2) .nil))))) .nil)⟩
def LawDeedAt (Γ : FT) : Prop := ∃ Γ' n, FirstAt Γ' ∧ LawWrittenAt Γ' ∧ Γ "_law_deed" = some (2, fun ds => runF Γ' n lawDeed ds)
theorem deeds_ok {Γ : FT} {n : Nat} {X : Str → Prop} {K : Rv → Prop} (hd : LawDeedAt Γ) (rs : List Ru) (ch : List Tx) (hl : rs.length ≤ 1000) (hc : ∀ c ∈ ch, c.length ≤ 1000) (hcl : ch.length ≤ 1000) (q : K (.ow false (.list (ch.map fun c => deedOf (fun r => ¬ Cl r.1 c) rs c)))) : RS X (runF Γ n deeds [.list (rs.map rl), .list (ch.map tx)]) K := by
  obtain ⟨Γ1, n1, h1, h2, e1⟩ := hd
  refine rs_run ?_
  simp [deeds, startE]
  refine rs_lc (fun i m L => m = false ∧ L = (ch.map fun c => deedOf (fun r => ¬ Cl r.1 c) rs c).take i) ⟨rfl, rfl⟩ (fun i d m L hd' h => ?_) (fun m L h => ?_)
  · obtain ⟨rfl, rfl⟩ := h
    obtain ⟨hi, rfl⟩ := map_at hd'
    have hci := hc _ (List.getElem_mem hi)
    simp [lcT, e_call e1]
    refine lawDeed_ok (Γ := Γ1) h1 h2 rs ch[i] hl hci ?_
    simp
    rw [← List.map_take, ← List.map_take, take_get (List.getElem?_eq_getElem hi), List.map_append]
    rfl
  · obtain ⟨rfl, rfl⟩ := h
    rw [List.length_map, List.take_of_length_le (by simp)]
    exact ⟨sz _ (by omega), q⟩
end M
end En
set_option Elab.async false
set_option linter.all false
set_option maxRecDepth 100000
set_option maxHeartbeats 4000000
namespace En
open PySem L2

theorem eq_nt {a : Tx} (h : Sm a) : eqO .none (tx a) = some false := by
  have sa := (nc_sm h).shp (by decide)
  have e : (shp (.none : D) && shp (tx a)) = true := by rw [sa, nc_none.shp (by decide)]; rfl
  show (if scal .non (.str ⟨a.toArray⟩) = true then some (decide (V.non = V.str ⟨a.toArray⟩)) else if (shp (.none : D) && shp (tx a)) = true then some (PyData.eqv .none (tx a)) else none) = _
  split
  · simp
  · simp [tx, PyData.eqv]
/-! ### the door of signs -/
theorem best_ex : ∀ (ws : List Wy) (s : Tx), ∃ d, Best ws s d
  | [], s => ⟨.none, .inl ⟨rfl, by simp⟩⟩
  | v :: ws, s => by
    obtain ⟨d, h⟩ := best_ex ws s
    by_cases hp : v.1 <+: s
    · rcases h with ⟨_, h⟩ | ⟨u, hu, e, pu, mu⟩
      · refine ⟨tx v.2, .inr ⟨v, List.mem_cons_self, rfl, hp, fun x hx px => ?_⟩⟩
        rcases List.mem_cons.mp hx with rfl | hx
        · exact Nat.le_refl _
        · exact absurd px (h x hx)
      · by_cases hl : v.1.length ≤ u.1.length
        · refine ⟨d, .inr ⟨u, List.mem_cons_of_mem _ hu, e, pu, fun x hx px => ?_⟩⟩
          rcases List.mem_cons.mp hx with rfl | hx
          · exact hl
          · exact mu x hx px
        · refine ⟨tx v.2, .inr ⟨v, List.mem_cons_self, rfl, hp, fun x hx px => ?_⟩⟩
          rcases List.mem_cons.mp hx with rfl | hx
          · exact Nat.le_refl _
          · have := mu x hx px
            omega
    · refine ⟨d, ?_⟩
      rcases h with ⟨e, h⟩ | ⟨u, hu, e, pu, mu⟩
      · refine .inl ⟨e, fun x hx px => ?_⟩
        rcases List.mem_cons.mp hx with rfl | hx
        · exact hp px
        · exact h x hx px
      · refine .inr ⟨u, List.mem_cons_of_mem _ hu, e, pu, fun x hx px => ?_⟩
        rcases List.mem_cons.mp hx with rfl | hx
        · exact absurd px hp
        · exact mu x hx px
noncomputable def doorD (ws : List Wy) (s : Tx) : D := Classical.choose (best_ex ws s)
theorem doorD_best (ws : List Wy) (s : Tx) : Best ws s (doorD ws s) := Classical.choose_spec (best_ex ws s)
theorem door_eq {ws : List Wy} {s : Tx} {d : D} (hn : (ws.map (·.1)).Nodup) (h : Best ws s d) : d = doorD ws s := best_one hn h (doorD_best ws s)
/-- with which beginnings signs begin is all that counts -/
theorem best_pre {ws : List Wy} {s t : Tx} {d : D} (h : ∀ v ∈ ws, (v.1 <+: s ↔ v.1 <+: t)) (hb : Best ws s d) : Best ws t d := by
  rcases hb with ⟨e, hb⟩ | ⟨u, hu, e, pu, mu⟩
  · exact .inl ⟨e, fun v hv p => hb v hv ((h v hv).mpr p)⟩
  · exact .inr ⟨u, hu, e, (h u hu).mp pu, fun v hv p => mu v hv ((h v hv).mpr p)⟩
theorem erase_mem {ws : List Wy} (hn : (ws.map (·.1)).Nodup) {n : Nat} (h : n < ws.length) : (∀ u ∈ ws, u = ws[n] ∨ u ∈ ws.eraseIdx n) ∧ ∀ u ∈ ws.eraseIdx n, u ∈ ws ∧ u.1 ≠ ws[n].1 := by
  have es : ws = ws.take n ++ ws[n] :: ws.drop (n + 1) := by rw [← List.drop_eq_getElem_cons h, List.take_append_drop]
  rw [List.eraseIdx_eq_take_drop_succ]
  refine ⟨fun u hu => ?_, fun u hu => ⟨?_, ?_⟩⟩
  · rw [es] at hu
    rcases List.mem_append.mp hu with hu | hu
    · exact .inr (List.mem_append_left _ hu)
    · rcases List.mem_cons.mp hu with hu | hu
      · exact .inl hu
      · exact .inr (List.mem_append_right _ hu)
  · rcases List.mem_append.mp hu with hu | hu
    · exact List.mem_of_mem_take hu
    · exact List.mem_of_mem_drop hu
  · have hp := List.pairwise_map.mp hn
    rw [es] at hp
    obtain ⟨h1, h2, h3⟩ := List.pairwise_append.mp hp
    rcases List.mem_append.mp hu with hu | hu
    · exact h3 u hu ws[n] List.mem_cons_self
    · exact fun e => (List.pairwise_cons.mp h2).1 u hu e.symm
theorem nodup_erase {ws : List Wy} (hn : (ws.map (·.1)).Nodup) (n : Nat) : ((ws.eraseIdx n).map (·.1)).Nodup := (List.eraseIdx_sublist ws n).map (·.1) |>.nodup hn
theorem best_erase1 {ws : List Wy} {n : Nat} (hn : (ws.map (·.1)).Nodup) (h : n < ws.length) {l : Tx} {d : D} (hb : Best ws l d) (hv : ∀ u ∈ ws.eraseIdx n, ws[n].1 <+: l → ws[n].1.length < u.1.length → ¬ u.1 <+: l → True) (hnv : ¬ (ws[n].1 <+: l ∧ ∀ u ∈ ws, u.1 <+: l → u.1.length ≤ ws[n].1.length)) : Best (ws.eraseIdx n) l d := by
  obtain ⟨m1, m2⟩ := erase_mem hn h
  rcases hb with ⟨e, hb⟩ | ⟨u, hu, e, pu, mu⟩
  · exact .inl ⟨e, fun v hv p => hb v (m2 v hv).1 p⟩
  · rcases m1 u hu with rfl | hu'
    · exact absurd ⟨pu, mu⟩ hnv
    · exact .inr ⟨u, hu', e, pu, fun v hv p => mu v (m2 v hv).1 p⟩
/-- behind the longest beginning the others tell alike -/
theorem best_under {ws : List Wy} {b l : Tx} {d : D} (hb : b <+: l) (hm : ∀ u ∈ ws, u.1 <+: l → u.1.length ≤ b.length) (h : Best ws b d) : Best ws l d := by
  refine best_pre (fun v hv => ⟨fun p => p.trans hb, fun p => ?_⟩) h
  exact List.prefix_of_prefix_length_le p hb (hm v hv p)
/-! ### rows of beginnings -/
def prow (n : Nat) (b : Tx) : Tx := b ++ List.replicate (n - b.length) 45
theorem prow_row {n : Nat} {b : Tx} (hb : Ltr b.length b) (h : b.length ≤ n) : Row n (prow n b) := by
  refine ⟨by unfold prow; rw [List.length_append, List.length_replicate]; omega, fun c hc => ?_⟩
  rcases List.mem_append.mp hc with hc | hc
  · exact (hb.2 c hc).sg
  · exact .inr (.inr (List.eq_of_mem_replicate hc))
theorem prow_hold {n : Nat} {b l : Tx} (hb : Ltr b.length b) (h : b.length ≤ n) (hl : Ltr n l) : Hold (prow n b) l ↔ b <+: l := by
  constructor
  · intro hh
    rw [List.prefix_iff_eq_take]
    apply List.ext_getElem?
    intro i
    by_cases hi : i < b.length
    · have e1 : (prow n b)[i]? = some b[i] := by unfold prow; rw [List.getElem?_append_left hi, List.getElem?_eq_getElem hi]
      have hil : i < l.length := by rw [hl.1]; omega
      have e2 := List.getElem?_eq_getElem hil
      rw [List.getElem?_take_of_lt hi, List.getElem?_eq_getElem hi, e2]
      rcases hh i _ _ e1 e2 with z | z
      · have := hb.2 _ (List.getElem_mem hi)
        rcases this with w | w <;> omega
      · rw [z]
    · rw [List.getElem?_eq_none (by omega), List.getElem?_eq_none (by rw [List.length_take]; omega)]
  · rintro ⟨t, rfl⟩ i x y e1 e2
    unfold prow at e1
    by_cases hi : i < b.length
    · rw [List.getElem?_append_left hi] at e1 e2
      rw [e1] at e2
      exact .inr (Option.some.inj e2)
    · rw [List.getElem?_append_right (by omega)] at e1
      exact .inl (List.eq_of_mem_replicate (List.mem_of_getElem? e1))
theorem prow_tell {n : Nat} {b : Tx} (i x : Nat) (e : (prow n b)[i]? = some x) (hx : x ≠ 45) : i < b.length := by
  refine Classical.byContradiction fun hi => ?_
  unfold prow at e
  rw [List.getElem?_append_right (by omega)] at e
  exact hx (List.eq_of_mem_replicate (List.mem_of_getElem? e))
/-- well-formed ways -/
def WysOk (b : Nat) (ws : List Wy) : Prop := (ws.map (·.1)).Nodup ∧ ∀ v ∈ ws, Ltr v.1.length v.1 ∧ v.1.length ≤ b ∧ Sm v.2
theorem WysOk.erase {b : Nat} {ws : List Wy} (h : WysOk b ws) (n : Nat) : WysOk b (ws.eraseIdx n) := ⟨nodup_erase h.1 n, fun v hv => h.2 v ((List.eraseIdx_sublist ws n).subset hv)⟩
namespace M
def wayNeedless : MF := ⟨11, (.cons (.unp [3, 4] (.ix (.v 0) (.v 1))) (.cons (.set 5 (.bin .Add (.sl (.v 0) .no (.so (.v 1))) (.sl (.v 0) (.so (.bin .Add (.v 1) (.ki 1))) .no)) false) (.cons (.ife (.cmp .Eq (.call "way_found" (.cons (.v 5) (.cons (.v 3) .nil))) (.v 4)) (.cons (.ret (.kb true)) .nil) .nil) (.cons (.set 6 (.lst (.cons (.bin .Add (.v 3) (.bin .Mult (.ks "-") (.bin .Sub (.v 2) (.bi "len" (.cons (.v 3) .nil))))) .nil)) false) (.cons (.for_ (.t [7, 8]) (.e (.v 5)) (.cons (.ife (.cmp .Gt (.bi "len" (.cons (.v 7) .nil)) (.bi "len" (.cons (.v 3) .nil))) (.cons (.set 9 (.lst .nil) true) (.cons (.for_ (.n 10) (.e (.v 6)) (.cons (.ext 9 (.call "row_less" (.cons (.v 10) (.cons (.bin .Add (.v 7) (.bin .Mult (.ks "-") (.bin .Sub (.v 2) (.bi "len" (.cons (.v 7) .nil))))) .nil)))) .nil)) (.frz 9 (.cons (.set 6 (.v 9) false) .nil)))) .nil) .nil)) (.cons (.ret (.cmp .Eq (.v 6) (.lst .nil))) .nil))))))⟩
def WayFoundAt (Γ : FT) : Prop := ∃ Γ' n, Γ "way_found" = some (2, fun ds => runF Γ' n wayFound ds)
theorem wayNeedless_ok {Γ : FT} {n : Nat} {X : Str → Prop} {K : Rv → Prop} (hf : WayFoundAt Γ) (hl : LessAt Γ) {w : Nat} (hw : w ≤ 900) (ws : List Wy) (hws : WysOk 5 ws) (h5 : ∀ v ∈ ws, v.1.length ≤ w) (hlen : ws.length ≤ 900) (k : Nat) (hk : k < ws.length)
    (q : ∀ t : Bool, (t = true → ∀ l, Ltr w l → doorD ws l = doorD (ws.eraseIdx k) l) → (t = false → ∃ l, Ltr w l ∧ doorD ws l ≠ doorD (ws.eraseIdx k) l) → K (.fr false (.bool t))) : RS X (runF Γ n wayNeedless [.list (ws.map wy), .int (k : Int), .int (w : Int)]) K := by
  obtain ⟨Γ1, n1, e1⟩ := hf
  obtain ⟨Γ2, n2, hm2, e2⟩ := hl
  obtain ⟨hn, hv⟩ := hws
  have ct : cutL (ws.map wy) none (some (k : Int)) = (ws.take k).map wy := by rw [cut_to, List.map_take]
  have cf : cutL (ws.map wy) (some ((k : Int) + 1)) none = (ws.drop (k + 1)).map wy := by
    rw [show (k : Int) + 1 = ((k + 1 : Nat) : Int) by omega, cut_from, List.map_drop]
  have ad : semBin .Add (.list ((ws.take k).map wy)) (.list ((ws.drop (k + 1)).map wy)) = some (true, .list ((ws.eraseIdx k).map wy)) := by
    rw [add_list (sz _ (by rw [List.length_map, List.length_map, List.length_take, List.length_drop]; omega)), ← List.map_append, List.eraseIdx_eq_take_drop_succ]
  have wa := wy_at hk
  obtain ⟨m1, m2⟩ := erase_mem hn hk
  obtain ⟨hb, hbl, hbs⟩ := hv _ (List.getElem_mem hk)
  have hbw := h5 _ (List.getElem_mem hk)
  have be1 := fun (l : Tx) (d : D) (hb : Best ws l d) => best_erase1 hn hk (l := l) hb fun _ _ _ _ _ => trivial
  have hno := nodup_erase hn k
  have hov : ∀ v ∈ ws.eraseIdx k, Ltr v.1.length v.1 ∧ v.1.length ≤ 5 ∧ Sm v.2 ∧ v.1.length ≤ w := fun v h => ⟨(hv v (m2 v h).1).1, (hv v (m2 v h).1).2.1, (hv v (m2 v h).1).2.2, h5 v (m2 v h).1⟩
  have vmem := List.getElem_mem hk
  have olen : (ws.eraseIdx k).length ≤ 900 := by have := (List.eraseIdx_sublist ws k).length_le; omega
  generalize ws[k] = v at *
  generalize ws.eraseIdx k = os at *
  obtain ⟨b, dr⟩ := v
  have hb : Ltr b.length b := hb
  have hbl : b.length ≤ 5 := hbl
  have hbs : Sm dr := hbs
  have hbw : b.length ≤ w := hbw
  have eb : ((w : Int) - (b.length : Int)) = ((w - b.length : Nat) : Int) := by omega
  have adb : semBin .Add (tx b) (tx (List.replicate (w - b.length) 45)) = some (false, tx (prow w b)) := add_tx (sz _ (by rw [List.length_replicate]; omega))
  have lenb := len_tx (l := b) (sz _ (by omega))
  refine rs_run ?_
  simp [-List.map_take, -List.map_drop, wayNeedless, startE, wa, wy, ct, cf, ad, e_call e1]
  refine wayFound_ok (Γ := Γ1) os b (fun u hu => by have := (hov u hu).2.1; omega) fun m d hB => ?_
  have eqd : ∃ t : Bool, eqO d (tx dr) = some t ∧ (t = true ↔ d = tx dr) ∧ ∀ lent mm, ans lent (.fr mm d) = .ok (.fr false d) := by
    rcases hB with ⟨rfl, _⟩ | ⟨u, hu, rfl, _⟩
    · exact ⟨false, eq_nt hbs, ⟨fun h => (nomatch h), fun h => (nomatch h)⟩, fun _ _ => ans_none _ _⟩
    · exact ⟨_, eq_tx _ _, by rw [decide_eq_true_iff, tx_inj], fun _ _ => ans_tx _ _ _⟩
  obtain ⟨t, et, ht, ea⟩ := eqd
  rw [ea]
  simp [et]
  refine ⟨fun h1 => ?_, fun h1 => ?_⟩
  · have hd := ht.mp h1
    subst hd
    refine q true (fun _ l hl => ?_) (fun h => nomatch h)
    by_cases hbest : b <+: l ∧ ∀ u ∈ ws, u.1 <+: l → u.1.length ≤ b.length
    · have b1 : Best ws l (tx dr) := .inr ⟨(b, dr), vmem, rfl, hbest.1, hbest.2⟩
      have b2 : Best os l (tx dr) := best_under hbest.1 (fun u hu p => hbest.2 u (m2 u hu).1 p) hB
      rw [← door_eq hn b1, ← door_eq hno b2]
    · exact door_eq hno (be1 l _ (doorD_best ws l) hbest)
  · have hdn : d ≠ tx dr := fun h => by rw [ht.mpr h] at h1; cases h1
    simp [lenb, eb, dashes (n := w - b.length) (by omega), adb, sz 1 (by decide)]
    obtain ⟨I, hI⟩ : ∃ I : Nat → List Sl → Prop, ∀ i e, I i e = ∃ (m0 m3 m4 m5 : Bool) (rest : List Tx) (s7 s8 s9 s10 : Sl), e = [.fr m0 (.list (ws.map wy)), .fr false (.int (k : Int)), .fr false (.int (w : Int)), .fr m3 (tx b), .fr m4 (tx dr), .fr m5 (.list (os.map wy)), .fr false (.list (rest.map tx)), s7, s8, s9, s10] ∧ Pcs w (List.range 5) (fun l => Hold (prow w b) l ∧ ∀ u ∈ os.take i, b.length < u.1.length → ¬ Hold (prow w u.1) l) rest := ⟨_, fun _ _ => rfl⟩
    have hpr := prow_row hb hbw
    have p5 : 2 ^ (List.range 5).length = 32 := by rw [List.length_range]
    refine fs_for I ?_ (fun i d e hd h => ?_) (fun e h => ?_)
    · rw [hI]
      exact ⟨_, _, _, _, [prow w b], _, _, _, _, rfl, fun r h => by rw [List.mem_singleton.mp h]; exact hpr, fun r h i x e hx => by rw [List.mem_singleton.mp h] at e; exact List.mem_range.mpr (by have := prow_tell i x e hx; omega), List.pairwise_singleton _ _, fun l _ => by simp⟩
    · rw [hI] at h
      obtain ⟨m0, m3, m4, m5, rest, s7, s8, s9, s10, rfl, P⟩ := h
      obtain ⟨hi, rfl⟩ := map_at hd
      have g := take_get (List.getElem?_eq_getElem hi)
      obtain ⟨ho, hol, hos, how⟩ := hov _ (List.getElem_mem hi)
      generalize os[i] = u at *
      obtain ⟨o, dt⟩ := u
      have ho : Ltr o.length o := ho
      have hol : o.length ≤ 5 := hol
      have how : o.length ≤ w := how
      have hor := prow_row ho how
      have lo := len_tx (l := o) (sz _ (by omega))
      have eo : ((w : Int) - (o.length : Int)) = ((w - o.length : Nat) : Int) := by omega
      have ado : semBin .Add (tx o) (tx (List.replicate (w - o.length) 45)) = some (false, tx (prow w o)) := add_tx (sz _ (by rw [List.length_replicate]; omega))
      have fo := P.few
      rw [p5] at fo
      simp [wy, lenb, lo]
      refine ⟨fun hlt => ?_, fun hlt => ?_⟩
      · obtain ⟨J, hJ⟩ : ∃ J : Nat → List Sl → Prop, ∀ j e, J j e = ∃ (m7 m8 : Bool) (s10 : Sl) (out : List Tx) (L : D), e = [.fr m0 (.list (ws.map wy)), .fr false (.int (k : Int)), .fr false (.int (w : Int)), .fr m3 (tx b), .fr m4 (tx dr), .fr m5 (.list (os.map wy)), .fr false (.list (rest.map tx)), .fr m7 (tx o), .fr m8 (tx dt), .ow false L, s10] ∧ L = .list (out.map tx) ∧ Pcs w (List.range 5) (fun l => ∃ r ∈ rest.take j, Hold r l ∧ ¬ Hold (prow w o) l) out ∧ ∀ x ∈ out, ∃ r ∈ rest.take j, Hold r x := ⟨_, fun _ _ => rfl⟩
        refine fs_for J ?_ (fun j d e' hd h => ?_) (fun e' h => ?_)
        · rw [hJ]
          exact ⟨_, _, _, [], _, rfl, rfl, pcs_nil (row := prow w o), by simp⟩
        · rw [hJ] at h
          obtain ⟨m7, m8, s10, out, L, rfl, rfl, hO, hin⟩ := h
          obtain ⟨hj, rfl⟩ := map_at hd
          have gj := take_get (List.getElem?_eq_getElem hj)
          have hmem := List.getElem_mem hj
          have hap : ∀ r ∈ rest.take j, Cl rest[j] r := fun r hr' => by
            obtain ⟨k, hk, rfl⟩ := List.getElem_of_mem hr'
            rw [List.length_take] at hk
            rw [List.getElem_take]
            exact List.pairwise_iff_getElem.mp P.apart k j (by omega) hj (by omega)
          have hp := P.row _ hmem
          have htp := P.tell _ hmem
          generalize rest[j] = p at *
          have fl := hO.few
          rw [p5] at fl
          have hto : ∀ i x : Nat, (prow w o)[i]? = some x → x ≠ 45 → i ∈ List.range 5 := fun i x e hx => List.mem_range.mpr (by have := prow_tell i x e hx; omega)
          simp [lo, eo, dashes (n := w - o.length) (by omega), ado, e_call e2]
          have fin : ∀ (fs : List Tx) (z : Int), Apart w p (prow w o) fs z → out.length + fs.length ≤ sizeLine ∧ J (j + 1) [.fr m0 (.list (ws.map wy)), .fr false (.int (k : Int)), .fr false (.int (w : Int)), .fr m3 (tx b), .fr m4 (tx dr), .fr m5 (.list (os.map wy)), .fr false (.list (rest.map tx)), .fr m7 (tx o), .fr m8 (tx dt), .ow false (.list (out.map tx ++ fs.map tx)), .fr false (tx p)] := fun fs z A => by
            refine ⟨sz _ (by have := A.few; omega), ?_⟩
            rw [hJ]
            obtain ⟨a1, a2⟩ := pcs_step hO hin hor hto (fun r hr' => P.row r (List.mem_of_mem_take hr')) hp htp hap A
            exact ⟨_, _, _, out ++ fs, _, rfl, by simp, by rw [gj]; exact a1, by rw [gj]; exact a2⟩
          refine less_ok (Γ := Γ2) hm2 p (prow w o) hp hor (by omega) (fun _ fs A => ?_) (fun _ fs A => ?_)
          · simp
            exact fin fs _ A
          · simp
            exact fin fs _ A
        · rw [hJ] at h
          obtain ⟨m7, m8, s10, out, L, rfl, rfl, hO, hin⟩ := h
          rw [List.length_map, List.take_of_length_le (Nat.le_refl _)] at hO
          simp
          rw [hI]
          refine ⟨_, _, _, _, out, _, _, _, _, rfl, hO.iff fun l hl => ?_⟩
          rw [g]
          constructor
          · rintro ⟨r, hr', h1, h2⟩
            obtain ⟨z1, z2⟩ := (P.cov l hl).mp ⟨r, hr', h1⟩
            refine ⟨z1, fun r' hr'' => ?_⟩
            rcases List.mem_append.mp hr'' with h | h
            · exact z2 r' h
            · rw [List.mem_singleton.mp h]; exact fun _ => h2
          · rintro ⟨z1, z2⟩
            obtain ⟨r, hr', h1⟩ := (P.cov l hl).mpr ⟨z1, fun r' hr'' => z2 r' (List.mem_append_left _ hr'')⟩
            exact ⟨r, hr', h1, z2 (o, dt) (List.mem_append_right _ (List.mem_singleton.mpr rfl)) (by show b.length < o.length; omega)⟩
      · rw [hI]
        refine ⟨_, _, _, _, rest, _, _, _, _, rfl, P.iff fun l hl => ?_⟩
        rw [g]
        constructor
        · rintro ⟨z1, z2⟩
          refine ⟨z1, fun r' hr'' => ?_⟩
          rcases List.mem_append.mp hr'' with h | h
          · exact z2 r' h
          · rw [List.mem_singleton.mp h]
            intro h'
            have h' : b.length < o.length := h'
            omega
        · rintro ⟨z1, z2⟩
          exact ⟨z1, fun r' hr'' => z2 r' (List.mem_append_left _ hr'')⟩
    · rw [hI] at h
      obtain ⟨m0, m3, m4, m5, rest, s7, s8, s9, s10, rfl, P⟩ := h
      rw [List.length_map, List.take_of_length_le (Nat.le_refl _)] at P
      simp
      rw [bad_nil (G := []) rest P.row]
      simp
      refine q _ (fun h => ?_) (fun h => ?_)
      · have hr : rest = [] := of_decide_eq_true h
        intro l hl
        refine door_eq hno (be1 l _ (doorD_best ws l) fun hbest => ?_)
        have : ¬ ∃ r ∈ rest, Hold r l := by rw [hr]; simp
        refine this ((P.cov l hl).mpr ⟨(prow_hold hb hbw hl).mpr hbest.1, fun u hu hlt hh => ?_⟩)
        have := hbest.2 u (m2 u hu).1 ((prow_hold (hov u hu).1 (hov u hu).2.2.2 hl).mp hh)
        have this : u.1.length ≤ b.length := this
        omega
      · have hr : rest ≠ [] := of_decide_eq_false h
        obtain ⟨r, rs', e⟩ := List.exists_cons_of_ne_nil hr
        have hrm : r ∈ rest := by rw [e]; exact List.mem_cons_self
        obtain ⟨l, hl, h1, _⟩ := common (P.row r hrm) (P.row r hrm) (not_cl r)
        obtain ⟨z1, z2⟩ := (P.cov l hl).mp ⟨r, hrm, h1⟩
        have hpl := (prow_hold hb hbw hl).mp z1
        have hmx : ∀ u ∈ os, u.1 <+: l → u.1.length ≤ b.length := fun u hu p => by
          refine Classical.byContradiction fun hc => ?_
          exact z2 u hu (by omega) ((prow_hold (hov u hu).1 (hov u hu).2.2.2 hl).mpr p)
        refine ⟨l, hl, ?_⟩
        have b2 : Best os l d := best_under hpl hmx hB
        have b1 : Best ws l (tx dr) := .inr ⟨(b, dr), vmem, rfl, hpl, fun u hu p => by
          rcases m1 u hu with rfl | hu
          · exact Nat.le_refl _
          · exact hmx u hu p⟩
        rw [← door_eq hn b1, ← door_eq hno b2]
        exact fun h => hdn h.symm
end M
end En
set_option Elab.async false
set_option linter.all false
set_option maxRecDepth 100000
set_option maxHeartbeats 4000000
namespace En
open PySem L2

theorem eq_wy {a b : Wy} (ha : Sm a.1 ∧ Sm a.2) (hb : Sm b.1 ∧ Sm b.2) : eqO (wy a) (wy b) = some (decide (a = b)) := by
  have sa := (nc_two (nc_sm ha.1) (nc_sm ha.2)).shp (by decide)
  have sb := (nc_two (nc_sm hb.1) (nc_sm hb.2)).shp (by decide)
  have e : (shp (wy a) && shp (wy b)) = true := by
    show (shp (.tuple [tx a.1, tx a.2]) && shp (.tuple [tx b.1, tx b.2])) = true
    rw [sa, sb]; rfl
  show (if (shp (wy a) && shp (wy b)) = true then some (PyData.eqv (wy a) (wy b)) else none) = _
  rw [if_pos e]
  congr 1
  obtain ⟨a1, a2⟩ := a
  obtain ⟨b1, b2⟩ := b
  rw [Bool.eq_iff_iff]
  simp [wy, PyData.eqv, PyData.eqvAll, eqv_tx]
@[simp] theorem isi_tup_wy (p : Wy) : semIsi (wy p) "tuple" = some true := isi_tup_t _
theorem ltr_sm {n : Nat} {l : Tx} (h : Ltr n l) : Sm l := row_sm h.row
theorem wys_shp {b : Nat} {ws : List Wy} (h : WysOk b ws) : shp (.list (ws.map wy)) = true := (nc_list (k := 1) fun d hd => by
  obtain ⟨v, hv, rfl⟩ := List.mem_map.mp hd
  exact nc_two (nc_row (h.2 v hv).1.row) (nc_sm (h.2 v hv).2.2)).shp (by decide)
theorem eq_nil3 {l : List D} (h : shp (.list l) = true) : eqO (.list l) (.list []) = some (decide (l = [])) := by
  have e : (shp (.list l) && shp (.list [])) = true := by rw [h, shp_list (by simp)]; rfl
  show (if (shp (.list l) && shp (.list [])) = true then some (PyData.eqv (.list l) (.list [])) else none) = _
  rw [if_pos e]
  congr 1
  simp [PyData.eqv, eqv_all_nil]
/-! ### doors side by side -/
def DoorF (d : D) : Prop := d = .none ∨ ∃ x, Sm x ∧ d = tx x
theorem doorF_nc {d : D} (h : DoorF d) : Nc 0 d := by
  rcases h with rfl | ⟨x, hx, rfl⟩
  · exact nc_none
  · exact nc_sm hx
theorem doorF_eqv {a b : D} (ha : DoorF a) (hb : DoorF b) : PyData.eqv a b = true ↔ a = b := by
  rcases ha with rfl | ⟨x, _, rfl⟩ <;> rcases hb with rfl | ⟨y, _, rfl⟩
  · simp [PyData.eqv]
  · simp [tx, PyData.eqv]
  · simp [tx, PyData.eqv]
  · rw [eqv_tx, decide_eq_true_iff, tx_inj]
theorem doorF_all : ∀ {A B : List D}, (∀ a ∈ A, DoorF a) → (∀ b ∈ B, DoorF b) → (PyData.eqvAll A B = true ↔ A = B)
  | [], [], _, _ => by simp [PyData.eqvAll]
  | [], b :: B, _, _ => by simp [PyData.eqvAll]
  | a :: A, [], _, _ => by simp [PyData.eqvAll]
  | a :: A, b :: B, ha, hb => by
    have h1 := doorF_eqv (ha a List.mem_cons_self) (hb b List.mem_cons_self)
    have h2 := doorF_all (fun x hx => ha x (List.mem_cons_of_mem _ hx)) (fun x hx => hb x (List.mem_cons_of_mem _ hx))
    simp only [PyData.eqvAll, Bool.and_eq_true, List.cons.injEq]
    rw [h1, h2]
theorem eq_doors {A B : List D} (ha : ∀ a ∈ A, DoorF a) (hb : ∀ b ∈ B, DoorF b) : ∃ t : Bool, eqO (.list A) (.list B) = some t ∧ (t = true ↔ A = B) := by
  have sa := (nc_list (k := 0) fun d hd => doorF_nc (ha d hd)).shp (by decide)
  have sb := (nc_list (k := 0) fun d hd => doorF_nc (hb d hd)).shp (by decide)
  have e : (shp (.list A) && shp (.list B)) = true := by rw [sa, sb]; rfl
  refine ⟨PyData.eqv (.list A) (.list B), ?_, ?_⟩
  · show (if (shp (.list A) && shp (.list B)) = true then some (PyData.eqv (.list A) (.list B)) else none) = _
    rw [if_pos e]
  · rw [PyData.eqv, doorF_all ha hb]
theorem doorF_of {b : Nat} {ws : List Wy} (h : WysOk b ws) (s : Tx) : DoorF (doorD ws s) := by
  rcases doorD_best ws s with ⟨e, _⟩ | ⟨v, hv, e, _⟩
  · exact .inl e
  · exact .inr ⟨_, (h.2 v hv).2.2, e⟩
/-- the greatest -/
theorem max_ints (a : Int) (ns : List Int) : ∃ m : Int, semBi "max" [.list ((a :: ns).map .int)] = some (false, .int m) ∧ a ≤ m ∧ (∀ x ∈ ns, x ≤ m) ∧ m ∈ a :: ns := by
  have e : semBi "max" [.list ((a :: ns).map .int)] = s_max [.list ((a :: ns).map .int)] := by
    unfold semBi
    rw [if_neg (by decide), if_neg (by decide), if_neg (by decide), if_neg (by decide), if_neg (by decide), if_pos rfl]
  have e2 : s_max [.list ((a :: ns).map .int)] = some (false, .int (ns.foldl (fun a b => if a < b then b else a) a)) := by
    show ((allO isInt ((a :: ns).map .int)).bind fun ns => (maxL ns).map fun m => (false, PyData.int m)) = _
    rw [allO_int]
    rfl
  rw [e, e2]
  refine ⟨_, rfl, ?_⟩
  clear e e2
  induction ns generalizing a with
  | nil => exact ⟨Int.le_refl _, by simp, by simp⟩
  | cons b ns ih =>
    rw [List.foldl_cons]
    by_cases h : a < b
    · rw [if_pos h]
      obtain ⟨h1, h2, h3⟩ := ih b
      refine ⟨by omega, fun x hx => ?_, List.mem_cons_of_mem _ h3⟩
      rcases List.mem_cons.mp hx with rfl | hx
      · exact h1
      · exact h2 x hx
    · rw [if_neg h]
      obtain ⟨h1, h2, h3⟩ := ih a
      refine ⟨h1, fun x hx => ?_, ?_⟩
      · rcases List.mem_cons.mp hx with rfl | hx
        · omega
        · exact h2 x hx
      · rcases List.mem_cons.mp h3 with h3 | h3
        · rw [h3]; exact List.mem_cons_self
        · exact List.mem_cons_of_mem _ (List.mem_cons_of_mem _ h3)
def NeedWy (w : Nat) (ws : List Wy) (k : Nat) : Prop := ∃ l, Ltr w l ∧ doorD ws l ≠ doorD (ws.eraseIdx k) l
namespace M
def waysThinned : MF := ⟨4, (.cons (.set 2 (.bi "list" (.cons (.v 0) .nil)) true) (.cons (.set 3 (.ki 0) false) (.cons (.whl (.cmp .Lt (.v 3) (.bi "len" (.cons (.v 2) .nil))) (.cons (.ife (.call "way_needless" (.cons (.v 2) (.cons (.v 3) (.cons (.v 1) .nil)))) (.cons (.set 2 (.bin .Add (.sl (.v 2) .no (.so (.v 3))) (.sl (.v 2) (.so (.bin .Add (.v 3) (.ki 1))) .no)) true) (.cons (.set 3 (.ki 0) false) .nil)) (.cons (.set 3 (.bin .Add (.v 3) (.ki 1)) false) .nil)) .nil)) (.cons (.reto 2) .nil))))⟩
def NeedlessAt (Γ : FT) : Prop := ∃ Γ' n, WayFoundAt Γ' ∧ LessAt Γ' ∧ Γ "way_needless" = some (3, fun ds => runF Γ' n wayNeedless ds)
theorem waysThinned_ok {Γ : FT} {n : Nat} {X : Str → Prop} {K : Rv → Prop} (hn : NeedlessAt Γ) (hfu : 100000 ≤ n) {w : Nat} (hw : w ≤ 900) (ws : List Wy) (hws : WysOk 5 ws) (h5 : ∀ v ∈ ws, v.1.length ≤ w) (hlen : ws.length ≤ 50)
    (q : ∀ (m : Bool) (left : List Wy), left.Sublist ws → (∀ l, Ltr w l → doorD left l = doorD ws l) → (∀ k, k < left.length → NeedWy w left k) → K (.ow m (.list (left.map wy)))) : RS X (runF Γ n waysThinned [.list (ws.map wy), .int (w : Int)]) K := by
  obtain ⟨Γ1, n1, hf1, hl1, e1⟩ := hn
  refine rs_run ?_
  simp [waysThinned, startE]
  obtain ⟨I, hI⟩ : ∃ I : Nat → List Sl → Prop, ∀ i e, I i e = ∃ (m : Bool) (left : List Wy) (L : D) (z : Nat), e = [.fr true (.list (ws.map wy)), .fr false (.int (w : Int)), .ow m L, .fr false (.int (z : Int))] ∧ L = .list (left.map wy) ∧ i = left.length * 1000 + (left.length - z) ∧ z ≤ left.length ∧ left.Sublist ws ∧ (∀ l, Ltr w l → doorD left l = doorD ws l) ∧ ∀ k, k < z → NeedWy w left k := ⟨_, fun _ _ => rfl⟩
  refine fs_whl I (m := ws.length * 1000 + ws.length) ?_ (by omega) fun i e h => ?_
  · rw [hI]
    exact ⟨_, ws, _, 0, rfl, rfl, by omega, Nat.zero_le _, List.Sublist.refl _, fun _ _ => rfl, fun k hk => absurd hk (Nat.not_lt_zero k)⟩
  · rw [hI] at h
    obtain ⟨m, left, L, z, rfl, rfl, rfl, hzl, hsub, hsame, hne⟩ := h
    have hlen' := hsub.length_le
    simp
    refine ⟨fun hz => ?_, fun hz => ?_⟩
    · have hwl : WysOk 5 left := ⟨(hsub.map (·.1)).nodup hws.1, fun v hv => hws.2 v (hsub.subset hv)⟩
      have ct : cutL (left.map wy) none (some (z : Int)) = (left.take z).map wy := by rw [cut_to, List.map_take]
      have cf : cutL (left.map wy) (some ((z : Int) + 1)) none = (left.drop (z + 1)).map wy := by
        rw [show (z : Int) + 1 = ((z + 1 : Nat) : Int) by omega, cut_from, List.map_drop]
      have ad : semBin .Add (.list ((left.take z).map wy)) (.list ((left.drop (z + 1)).map wy)) = some (true, .list ((left.eraseIdx z).map wy)) := by
        rw [add_list (sz _ (by rw [List.length_map, List.length_map, List.length_take, List.length_drop]; omega)), ← List.map_append, List.eraseIdx_eq_take_drop_succ]
      simp [-List.map_take, -List.map_drop, e_call e1]
      refine wayNeedless_ok (Γ := Γ1) hf1 hl1 hw left hwl (fun v hv => h5 v (hsub.subset hv)) (by omega) z hz fun t h1 h2 => ?_
      cases t with
      | true =>
        simp [-List.map_take, -List.map_drop, ct, cf, ad]
        refine ⟨(left.length - 1) * 1000 + (left.length - 1), by omega, ?_⟩
        rw [hI]
        exact ⟨_, left.eraseIdx z, _, 0, rfl, rfl, by rw [List.length_eraseIdx, if_pos hz]; omega, Nat.zero_le _, (List.eraseIdx_sublist left z).trans hsub, fun l hl => by rw [← h1 rfl l hl]; exact hsame l hl, fun k hk => absurd hk (Nat.not_lt_zero k)⟩
      | false =>
        simp
        refine ⟨left.length * 1000 + (left.length - (z + 1)), by omega, ?_⟩
        rw [hI]
        refine ⟨_, left, _, z + 1, rfl, rfl, rfl, by omega, hsub, hsame, fun k hk => ?_⟩
        by_cases hkz : k = z
        · rw [hkz]; exact h2 rfl
        · exact hne k (by omega)
    · exact q m left hsub hsame fun k hk => hne k (by omega)
def lawLeft : MF := ⟨4, (.cons (.set 2 (.ki 0) false) (.cons (.for_ (.n 3) (.e (.v 1)) (.cons (.whl (.bop true (.cons (.cmp .Lt (.v 2) (.bi "len" (.cons (.v 0) .nil))) (.cons (.cmp .NotEq (.ix (.v 0) (.v 2)) (.v 3)) .nil))) (.cons (.set 2 (.bin .Add (.v 2) (.ki 1)) false) .nil)) (.cons (.ife (.bop false (.cons (.cmp .Eq (.v 2) (.bi "len" (.cons (.v 0) .nil))) (.cons (.not_ (.isi (.v 3) "tuple")) .nil))) (.cons (.ret (.kb false)) .nil) .nil) (.cons (.set 2 (.bin .Add (.v 2) (.ki 1)) false) .nil)))) (.cons (.ret (.kb true)) .nil)))⟩
theorem lawLeft_ok {Γ : FT} {n : Nat} {X : Str → Prop} {K : Rv → Prop} (hfu : 100000 ≤ n) (ws fd : List Wy) (hl : ws.length ≤ 900) (hws : ∀ v ∈ ws, Sm v.1 ∧ Sm v.2) (hsub : fd.Sublist ws) (q : K (.fr false (.bool true))) : RS X (runF Γ n lawLeft [.list (ws.map wy), .list (fd.map wy)]) K := by
  have flen := hsub.length_le
  refine rs_run ?_
  simp [lawLeft, startE]
  obtain ⟨I, hI⟩ : ∃ I : Nat → List Sl → Prop, ∀ i e, I i e = ∃ (s3 : Sl) (k : Nat), e = [.fr true (.list (ws.map wy)), .fr true (.list (fd.map wy)), .fr false (.int (k : Int)), s3] ∧ k ≤ ws.length ∧ (fd.drop i).Sublist (ws.drop k) := ⟨_, fun _ _ => rfl⟩
  refine fs_for I ?_ (fun i d e hd h => ?_) (fun e h => ?_)
  · rw [hI]
    exact ⟨_, 0, rfl, Nat.zero_le _, by simpa using hsub⟩
  · rw [hI] at h
    obtain ⟨s3, k, rfl, hk, hs⟩ := h
    obtain ⟨hi, rfl⟩ := map_at hd
    rw [List.drop_eq_getElem_cons hi] at hs
    have hxo := hws _ (hsub.subset (List.getElem_mem hi))
    generalize fd[i] = x at *
    simp
    obtain ⟨J, hJ⟩ : ∃ J : Nat → List Sl → Prop, ∀ j e, J j e = ∃ k : Nat, e = [.fr true (.list (ws.map wy)), .fr true (.list (fd.map wy)), .fr false (.int (k : Int)), .fr true (wy x)] ∧ j + k = ws.length ∧ (x :: fd.drop (i + 1)).Sublist (ws.drop k) := ⟨_, fun _ _ => rfl⟩
    refine fs_whl J (m := ws.length - k) ?_ (by omega) fun j e h => ?_
    · rw [hJ]
      exact ⟨k, rfl, by omega, hs⟩
    · rw [hJ] at h
      obtain ⟨k, rfl, hjk, hs⟩ := h
      have hkl : k < ws.length := by
        refine Classical.byContradiction fun hn => ?_
        have e0 : ws.drop k = [] := List.drop_eq_nil_of_le (by omega)
        rw [e0] at hs
        cases hs
      rw [List.drop_eq_getElem_cons hkl] at hs
      have wa := wy_at hkl
      have eqx := eq_wy (hws _ (List.getElem_mem hkl)) hxo
      have c1 : ((k : Int) < (ws.length : Int)) := by omega
      have c2 : ¬ ((k : Int) = (ws.length : Int)) := by omega
      by_cases he : ws[k] = x
      · have hs' : (fd.drop (i + 1)).Sublist (ws.drop (k + 1)) := by
          rw [he] at hs
          exact List.cons_sublist_cons.mp hs
        rw [he] at eqx wa
        simp [c1, wa, eqx]
        simp [c2]
        rw [hI]
        exact ⟨_, k + 1, rfl, by omega, hs'⟩
      · have hs' : (x :: fd.drop (i + 1)).Sublist (ws.drop (k + 1)) := by
          cases hs with
          | cons _ h => exact h
          | cons_cons _ h => exact absurd rfl he
        simp [c1, wa, eqx, he]
        refine ⟨j - 1, by omega, ?_⟩
        rw [hJ]
        exact ⟨k + 1, rfl, by omega, hs'⟩
  · rw [hI] at h
    obtain ⟨s3, k, rfl, hk, hs⟩ := h
    try simp
    exact q
def lawDoors : MF := ⟨3, (.cons (.ret (.lc (.n 2) (.e (.v 1)) .no (.call "_law_door" (.cons (.v 0) (.cons (.v 2) .nil))))) .nil)⟩
def LawDoorAt (Γ : FT) : Prop := ∃ Γ' n, Γ "_law_door" = some (2, fun ds => runF Γ' n lawDoor ds)
theorem lawDoors_ok {Γ : FT} {n : Nat} {X : Str → Prop} {K : Rv → Prop} (hd : LawDoorAt Γ) (ws : List Wy) (ch : List Tx) (hn : (ws.map (·.1)).Nodup) (hc : ∀ c ∈ ch, c.length ≤ 1000) (hcl : ch.length ≤ 1000) (q : K (.ow false (.list (ch.map fun c => doorD ws c)))) : RS X (runF Γ n lawDoors [.list (ws.map wy), .list (ch.map tx)]) K := by
  obtain ⟨Γ1, n1, e1⟩ := hd
  refine rs_run ?_
  simp [lawDoors, startE]
  refine rs_lc (fun i m L => m = false ∧ L = (ch.map fun c => doorD ws c).take i) ⟨rfl, rfl⟩ (fun i d m L hd' h => ?_) (fun m L h => ?_)
  · obtain ⟨rfl, rfl⟩ := h
    obtain ⟨hi, rfl⟩ := map_at hd'
    have hci := hc _ (List.getElem_mem hi)
    have g := take_get (l := ch.map fun c => doorD ws c) (a := doorD ws ch[i]) (by rw [List.getElem?_map, List.getElem?_eq_getElem hi]; rfl)
    simp [lcT, e_call e1]
    refine lawDoor_ok (Γ := Γ1) ws ch[i] hci fun m d hB => ?_
    have ed := door_eq hn hB
    have hi' : imm d = true := by
      rcases hB with ⟨rfl, _⟩ | ⟨v, _, rfl, _⟩ <;> simp
    rw [← ed] at g
    simp [hi']
    rw [← List.map_take, g, List.map_take]
  · obtain ⟨rfl, rfl⟩ := h
    rw [List.length_map, List.take_of_length_le (by simp)]
    exact ⟨sz _ (by omega), q⟩
end M
end En
set_option Elab.async false
set_option linter.all false
set_option maxRecDepth 100000
set_option maxHeartbeats 4000000
namespace En
open PySem L2

namespace M
def withBoth : MF := ⟨9, (.cons (.ife (.cmp .Eq (.v 0) (.lst .nil)) (.cons (.ret (.v 0)) .nil) .nil) (.cons (.unp [2, 3] (.ix (.v 0) (.bin .Mod (.v 1) (.bi "len" (.cons (.v 0) .nil))))) (.cons (.set 4 (.lc (.t [7, 8]) (.e (.v 0)) .no (.v 7)) false) (.cons (.set 5 (.bi "list" (.cons (.v 0) .nil)) true) (.cons (.for_ (.n 6) (.e (.lst (.cons (.ks "0") (.cons (.ks "1") .nil)))) (.cons (.ife (.bop true (.cons (.cmp .NotIn (.bin .Add (.v 2) (.v 6)) (.v 4)) (.cons (.cmp .Lt (.bi "len" (.cons (.v 2) .nil)) (.ki 5)) .nil))) (.cons (.app 5 (.tup (.cons (.bin .Add (.v 2) (.v 6)) (.cons (.ix (.ix (.v 0) (.bin .Mod (.bin .FloorDiv (.v 1) (.ki 11)) (.bi "len" (.cons (.v 0) .nil)))) (.ki 1)) .nil)))) .nil) .nil) .nil)) (.cons (.reto 5) .nil))))))⟩
theorem withBoth_ok {Γ : FT} {n : Nat} {X : Str → Prop} {K : Rv → Prop} (ws : List Wy) (hws : WysOk 4 ws) (hlen : ws.length ≤ 900) (c : Int) (q1 : ws = [] → ∀ m, K (.fr m (.list (ws.map wy)))) (q2 : ∀ (m : Bool) (ws' : List Wy), WysOk 5 ws' → ws'.length ≤ ws.length + 2 → K (.ow m (.list (ws'.map wy)))) : RS X (runF Γ n withBoth [.list (ws.map wy), .int c]) K := by
  have sw := wys_shp hws
  refine rs_run ?_
  by_cases he : ws = []
  · subst he
    have sw' : shp (.list ([] : List D)) = true := sw
    simp [withBoth, startE, eq_nil3 sw']
    exact q1 rfl _
  · have hpos : 0 < ws.length := List.length_pos_iff.mpr he
    obtain ⟨k, hk, hk2⟩ : ∃ k : Nat, (k : Int) = c % (ws.length : Int) ∧ k < ws.length := by
      have h1 := Int.emod_nonneg c (show (ws.length : Int) ≠ 0 by omega)
      have h2 := Int.emod_lt_of_pos c (show (0 : Int) < (ws.length : Int) by omega)
      exact ⟨(c % (ws.length : Int)).toNat, by omega, by omega⟩
    obtain ⟨k', hk', hk2'⟩ : ∃ k : Nat, (k : Int) = c / 11 % (ws.length : Int) ∧ k < ws.length := by
      have h1 := Int.emod_nonneg (c / 11) (show (ws.length : Int) ≠ 0 by omega)
      have h2 := Int.emod_lt_of_pos (c / 11) (show (0 : Int) < (ws.length : Int) by omega)
      exact ⟨(c / 11 % (ws.length : Int)).toNat, by omega, by omega⟩
    have wa := wy_at hk2
    have wa' := wy_at hk2'
    have hv := hws.2 _ (List.getElem_mem hk2)
    have hv' := hws.2 _ (List.getElem_mem hk2')
    have hm := List.getElem_mem hk2
    generalize ws[k] = v at *
    generalize ws[k'] = v' at *
    obtain ⟨b, dr⟩ := v
    obtain ⟨hb, hbl, hbs⟩ := hv
    have hb : Ltr b.length b := hb
    have hbl : b.length ≤ 4 := hbl
    have lenb := len_tx (l := b) (sz _ (by omega))
    have adb : ∀ y : Nat, semBin .Add (tx b) (tx [y]) = some (false, tx (b ++ [y])) := fun y => add_tx (sz _ (by simp; omega))
    have w1 : wy (b, dr) = .tuple [tx b, tx dr] := rfl
    simp [withBoth, startE, eq_nil3 sw, he, En.mod_int (i := c) (j := (ws.length : Int)) (by omega), ← hk, wa]
    rw [w1]
    simp
    refine rs_lc (fun i m L => m = false ∧ L = ((ws.map (·.1)).take i).map tx) ⟨rfl, rfl⟩ (fun i d m L hd' h => ?_) (fun m L h => ?_)
    · obtain ⟨rfl, rfl⟩ := h
      obtain ⟨hi, rfl⟩ := map_at hd'
      simp [lcT, wy]
      rw [take_get (l := ws.map (tx ∘ fun x : Wy => x.1)) (a := tx ws[i].1) (by rw [List.getElem?_map, List.getElem?_eq_getElem hi]; rfl)]
    · obtain ⟨rfl, rfl⟩ := h
      rw [List.length_map, List.take_of_length_le (by simp)]
      refine ⟨sz _ (by omega), ?_⟩
      simp [sz 2 (by decide), -List.map_map]
      obtain ⟨I, hI⟩ : ∃ I : Nat → List Sl → Prop, ∀ i e, I i e = ∃ (m2 m3 mm : Bool) (s6 : Sl) (ws' : List Wy) (L : D), e = [.fr true (.list (ws.map wy)), .fr false (.int c), .fr m2 (tx b), .fr m3 (tx dr), .fr false (.list ((ws.map (·.1)).map tx)), .ow mm L, s6, .no, .no] ∧ L = .list (ws'.map wy) ∧ WysOk 5 ws' ∧ ws'.length ≤ ws.length + i ∧ ∀ u ∈ ws', u ∈ ws ∨ ∃ y ∈ [48, 49].take i, u.1 = b ++ [y] := ⟨_, fun _ _ => rfl⟩
      refine fs_for I ?_ (fun i d e hd h => ?_) (fun e h => ?_)
      · rw [hI]
        exact ⟨_, _, _, _, ws, _, rfl, rfl, ⟨hws.1, fun u hu => ⟨(hws.2 u hu).1, by have := (hws.2 u hu).2.1; omega, (hws.2 u hu).2.2⟩⟩, Nat.le_refl _, fun u hu => .inl hu⟩
      · rw [hI] at h
        obtain ⟨m2, m3, mm, s6, ws', L, rfl, rfl, hok, hl', hin⟩ := h
        obtain ⟨y, ey, rfl, hy⟩ : ∃ y : Nat, ([48, 49] : List Nat)[i]? = some y ∧ d = tx [y] ∧ Bt y := by
          match i, hd with
          | 0, hd => cases hd; exact ⟨48, rfl, rfl, .inl rfl⟩
          | 1, hd => cases hd; exact ⟨49, rfl, rfl, .inr rfl⟩
          | i + 2, hd => simp at hd
        have g := take_get ey
        have it := in_txs (b ++ [y]) (ws.map (·.1))
        have lz : ws'.length < sizeLine := slt (by
          have := (List.getElem?_eq_some_iff.mp ey).1
          simp at this
          omega)
        generalize hkn : (ws.map (·.1)).map tx = kn at *
        have b5 : ((b.length : Int) < 5) := by omega
        simp [-rs_bopA, adb, it, lenb, b5, En.div_int, En.mod_int (i := c / 11) (j := (ws.length : Int)) (by omega), ← hk', wa', wy1, sz 2 (by decide), lz]
        refine ⟨fun hn => ?_, fun hn => ?_⟩ <;> rw [hI]
        · have hnin : ∀ u ∈ ws, u.1 ≠ b ++ [y] := fun u hu e => by
            obtain ⟨u1, u2⟩ := u
            have e : u1 = b ++ [y] := e
            subst e
            exact hn u2 hu
          refine ⟨_, _, _, _, ws' ++ [(b ++ [y], v'.2)], _, rfl, by simp [wy], ⟨?_, fun u hu => ?_⟩, by simp; omega, fun u hu => ?_⟩
          · rw [List.map_append]
            refine List.nodup_append.mpr ⟨hok.1, by simp, fun x hx z hz => ?_⟩
            have : z = b ++ [y] := by simpa using hz
            rw [this]
            obtain ⟨u, hu, rfl⟩ := List.mem_map.mp hx
            rcases hin u hu with h | ⟨y', hy', e⟩
            · exact hnin u h
            · rw [e]
              intro e2
              have : y' = y := by simpa using e2
              subst this
              obtain ⟨hi, e3⟩ := List.getElem?_eq_some_iff.mp ey
              rcases hy with rfl | rfl <;> (match i, ey, hy' with
                | 0, _, hy' => simp at hy'
                | 1, ey, hy' => simp at hy' ey
                | i + 2, ey, _ => simp at ey)
          · rcases List.mem_append.mp hu with hu | hu
            · exact hok.2 u hu
            · rw [List.mem_singleton.mp hu]
              refine ⟨⟨rfl, fun x hx => ?_⟩, by show (b ++ [y]).length ≤ 5; simp; omega, hv'.2.2⟩
              have hx : x ∈ b ++ [y] := hx
              rcases List.mem_append.mp hx with hx | hx
              · exact hb.2 x hx
              · rw [List.mem_singleton.mp hx]; exact hy
          · rcases List.mem_append.mp hu with hu | hu
            · rcases hin u hu with h | ⟨y', hy', e⟩
              · exact .inl h
              · exact .inr ⟨y', by rw [g]; exact List.mem_append_left _ hy', e⟩
            · rw [List.mem_singleton.mp hu]
              exact .inr ⟨y, by rw [g]; simp, rfl⟩
        · intro _
          refine ⟨_, _, _, _, ws', _, rfl, rfl, hok, by omega, fun u hu => ?_⟩
          rcases hin u hu with h | ⟨y', hy', e⟩
          · exact .inl h
          · exact .inr ⟨y', by rw [g]; exact List.mem_append_left _ hy', e⟩
      · rw [hI] at h
        obtain ⟨m2, m3, mm, s6, ws', L, rfl, rfl, hok, hl', _⟩ := h
        simp
        exact q2 _ ws' hok hl'
end M
end En
set_option Elab.async false
set_option linter.all false
set_option maxRecDepth 100000
set_option maxHeartbeats 8000000
namespace En
open PySem PySem.Spec PyProof.Rows L2

/-! ### texts with a sign replaced, anywhere: a token is out -/
theorem thnT {α : Type} {t : Sem α} {Q Q' : α → Shared → Prop} {M : Model} {A : Around} {E : Value → Shared → Prop} {s : Shared} (h : wpAny M A t Q E s) (hQ : ∀ a s', s.toks ≤ s'.toks → Q a s' → Q' a s') : wpAny M A t Q' E s :=
  wpAny_mono (PySem.wpAny_toks h) (fun a s' q => hQ a s' q.1 q.2) fun _ _ z => z.2
theorem petImp {X : Cx} {e : Expr} {t t' : TE} (h : PET X e t) (i : ∀ σ H Q, t' σ H Q → t σ H Q) : PET X e t' := fun pins s σ H Q h0 I q => h pins s σ H Q h0 I (i σ H Q q)
theorem pstImp {X : Cx} {st : Stmt} {t t' : TS} (h : PST X st t) (i : ∀ D σ H, t' D σ H → t D σ H) : PST X st t' := fun pins s σ H D h0 I q => h pins s σ H D h0 I (i D σ H q)
theorem psstImp {X : Cx} {st : List Stmt} {t t' : TS} (h : PSsT X st t) (i : ∀ D σ H, t' D σ H → t D σ H) : PSsT X st t' := fun pins s σ H D h0 I q => h pins s σ H D h0 I (i D σ H q)
theorem pst_expr {X : Cx} {e : Expr} {te : TE} {pos : Pos} (he : PET X e te) (hs : swapsWith e none pos.line X.env = pure false) : PST X (.Expr e pos) (tDrop te) := by
  intro pins s σ H D h0 I h
  exact wpAny_Expr_any (thn (he pins s σ H _ h0 I h) fun v s1 ⟨x, H1, I1, r1, q1⟩ => ⟨σ, H1, I1, q1⟩) I.quiet hs
theorem pst_set {X : Cx} {i : Nat} {x : Str} {e : Expr} {te : TE} {pos' pos : Pos} (hN : X.N.Nodup) (hi : X.N[i]? = some x) (hx : Loc X.env.scope x) (he : PET X e te) (hs : swapsWith e (some (.Name x pos')) pos.line X.env = pure false) (hf : X.fn x = true ∨ X.env.scope.names.lookup x = some .local) :
    PST X (.Assign [.Name x pos'] e pos) (tAsg te (gName i)) := by
  intro pins s σ H D h0 I h
  refine wpAny_Assign_Name (thn (he pins s σ H _ h0 I h) fun v s1 ⟨y, H1, I1, r1, q1⟩ => ?_) hs
  exact store_ok I1 hN hi hx r1 (fun s2 I2 => ⟨_, H1, I2, q1⟩) hf
section
variable {X : Cx} {T name id : String} {r : V → List V → Hp → VK → Prop} {o e : Expr} {es : List Expr} {to : TE} {t : TA} {apos cpos : Pos}
theorem pet_bm (pa : PlainAttrs T) (slot : Slot T name id) (hty : typeOf (.builtin id) = pure (.type "method_descriptor")) (hm : MtR X id r) (ho : PE X o to) (ha : PAT X (e :: es) t)
    (hbase : attributeBase o name X.env (eval o X.env) = eval o X.env)
    (hfew : ((backTo cpos (starEach (e :: es) X.env)).all (fun x => !x.1) && (backToKw cpos (keywordEach [] X.env)).all (fun x => x.1.isSome)
      && decide ((e :: es).length + ([] : List Keyword).length + (if ([] : List Keyword).isEmpty then 0 else 1) < 30)) = true)
    (hline : (apos.endLine == cpos.line) = true) (hs : starEach (e :: es) X.env = (false, eval e X.env) :: starEach es X.env) (hplain : (backTo cpos (starEach es X.env)).any (·.1) = false) :
    PET X (.Call (.Attribute o name apos) (e :: es) [] cpos) (tBM X.K T r to t) := by
  intro pins s σ H Q h0 I h
  refine wpAny_Call_method_late hbase hfew hline rfl (thnT (ho.run pins s σ H _ I h) fun v s1 hk ⟨x, H1, I1, r1, ty, q1⟩ => ?_)
  obtain ⟨h1, h2⟩ := tyV_is I1 r1 ty
  refine ⟨T, id, pa, slot, hty, h1, h2, ?_⟩
  have hA := ha cpos pins s1 σ H1 _ (Nat.le_trans h0 hk) I1 q1
  rw [hs] at hA ⊢
  refine Calls.callWith_builtin (by show (false || (backTo cpos (starEach es X.env)).any (·.1)) = false; rw [hplain] <;> rfl) (Calls.evalArgs_plain ?_)
  exact thn hA fun us s2 ⟨vs, H2, I2, r2, q2⟩ => hm pins s2 σ H2 x vs v us Q I2 r1 r2 q2
end
theorem pst_forT {X : Cx} {tg iter : Expr} {body : List Stmt} {wi : TI} {g : TG} {tb : TS} {pos : Pos} (hp : PassesOwn (model X.prog X.w) X.A X.env X.xe) (hc : X.calm = true) (hi : PI X tg iter wi) (hg : PG X tg g) (hb : PSsT X body tb)
    (hs : ∀ x, foldedSetIterable iter X.env x = pure x) : PST X (.For tg iter body [] pos) (tFor wi g tb) := by
  intro pins s σ H D h0 I h
  refine wpAny_For (thnT (hi.run pins s σ H _ I h) fun v s1 k1 h1 => thnT h1 fun itv s2 k2 h2 => ?_) hs
  obtain ⟨it, fp, tn, J, H2, e, I2, T, st2, f2, W, ⟨m0, w0⟩, turn⟩ := h2
  subst e
  have stat : ∀ {H' : Hp}, (∀ b ∈ fp, H' b = none) → ∀ b ∈ fp, FpOk X pins H' b := fun hn b hb => ⟨hn b hb, (f2 b hb).2⟩
  refine codeAny_forLoop_any (fun n s' => ∃ i σ' H', 1 ≤ s'.toks ∧ Inv X pins σ' H' s' ∧ tn i s'.heap ∧ (∀ b ∈ fp, H' b = none) ∧ W i n σ' H') ?_ m0 ⟨0, σ, H2, Nat.le_trans h0 (Nat.le_trans k1 k2), I2, st2, fun b hb => (f2 b hb).1, w0⟩
  rintro n s3 ⟨i, σ3, H3, k3, I3, st3, fr3, w3⟩
  rcases turn i n σ3 H3 w3 with ⟨stop, qn⟩ | ⟨go, N, hN, step⟩
  · refine wpAny_passesOwn hp (thn (T.done X rfl rfl rfl hc i pins s3 σ3 H3 X.xe I3 (stat fr3) st3 stop) fun r s4 ⟨hr, I4⟩ => ?_)
    subst hr
    exact wpAny_execs_nil ⟨σ3, H3, I4, qn⟩
  · refine wpAny_passesOwn hp (thnT (T.item X rfl rfl rfl hc i pins s3 σ3 H3 X.xe I3 (stat fr3) st3 go) fun r s4 k4 ⟨u, hr, h4⟩ => ?_)
    subst hr
    refine wpAny_passesOwn hp (thnT h4 fun _ s5 k5 ⟨x, H5, I5, r5, y5, st5, fr5⟩ => ?_)
    have I5' := I5.pinned (stat fr5) (T.obj _ _ st5)
    refine wpAny_passesOwn hp (thnT (hg.run _ s5 σ3 H5 x u _ I5' r5 (step x H5 y5)) fun _ s6 k6 ⟨σ6, H6, I6, q6⟩ => ?_)
    refine wpAny_passesOwn hp (thnT (hb _ s6 σ6 H6 _ (Nat.le_trans k3 (Nat.le_trans k4 (Nat.le_trans k5 k6))) I6 q6) fun f s7 k7 q7 => ?_)
    have again : ∀ {σ7 : L2.St} {H7 : Hp}, Inv X (pins ++ pinsAt fp s5.heap) σ7 H7 s7 → N σ7 H7 → ∃ m, m < n ∧ ∃ i σ' H', 1 ≤ s7.toks ∧ Inv X pins σ' H' s7 ∧ tn i s7.heap ∧ (∀ b ∈ fp, H' b = none) ∧ W i m σ' H' := fun {σ7 H7} I7 n7 => by
      obtain ⟨m', hm, w7⟩ := hN σ7 H7 n7
      refine ⟨m', hm, i + 1, σ7, H7, Nat.le_trans (Nat.le_trans k3 (Nat.le_trans k4 (Nat.le_trans k5 k6))) k7, I7.unpinned, T.keep _ _ _ st5 fun b hb o e => (I7.pin (b, o) (List.mem_append_right _ (List.mem_append_right _ (mem_pinsAt hb e)))).1, fun b hb => ?_, w7⟩
      obtain ⟨o, e, d⟩ := T.obj _ _ st5 b hb
      exact (I7.pin (b, o) (List.mem_append_right _ (List.mem_append_right _ (mem_pinsAt hb e)))).2.1
    cases f with
    | next => obtain ⟨σ7, H7, I7, n7⟩ := q7; exact again I7 n7
    | cont => obtain ⟨σ7, H7, I7, n7⟩ := q7; exact again I7 n7
    | brk => obtain ⟨σ7, H7, I7, q7⟩ := q7; exact ⟨σ7, H7, I7.unpinned, q7⟩
    | ret v => obtain ⟨x7, σ7, H7, I7, r7, q7⟩ := q7; exact ⟨x7, σ7, H7, I7.unpinned, r7, q7⟩
/-- expressions with texts replaced -/
def okET (N : List Str) (sc : Scope) : ME → Expr → Bool
  | .rep a y z, e => match e with | .Call (.Attribute x m ap) [.Constant (.str y') _ _, .Constant (.str z') _ _] [] cp => decide (m = "replace") && decide (y = y') && decide (z = z') && !(y == z) && (ap.endLine == cp.line) && okE N sc a x | _ => false
  | .bin op a b, e => match e with | .BinOp x op' y _ => decide (op = op') && okET N sc a x && okET N sc b y | _ => false
  | .v x0, e => okE N sc (.v x0) e
  | .kn, e => okE N sc (.kn) e
  | .kb x0, e => okE N sc (.kb x0) e
  | .ki x0, e => okE N sc (.ki x0) e
  | .ks x0, e => okE N sc (.ks x0) e
  | .lst x0, e => okE N sc (.lst x0) e
  | .tup x0, e => okE N sc (.tup x0) e
  | .dK0, e => okE N sc (.dK0) e
  | .neg x0, e => okE N sc (.neg x0) e
  | .cmp x0 x1 x2, e => okE N sc (.cmp x0 x1 x2) e
  | .chn x0 x1 x2 x3 x4, e => okE N sc (.chn x0 x1 x2 x3 x4) e
  | .bop x0 x1, e => okE N sc (.bop x0 x1) e
  | .not_ x0, e => okE N sc (.not_ x0) e
  | .ite x0 x1 x2, e => okE N sc (.ite x0 x1 x2) e
  | .ix x0 x1, e => okE N sc (.ix x0 x1) e
  | .sl x0 x1 x2, e => okE N sc (.sl x0 x1 x2) e
  | .bi x0 x1, e => okE N sc (.bi x0 x1) e
  | .isi x0 x1, e => okE N sc (.isi x0 x1) e
  | .mt x0 x1 x2, e => okE N sc (.mt x0 x1 x2) e
  | .call x0 x1, e => okE N sc (.call x0 x1) e
  | .lc x0 x1 x2 x3, e => okE N sc (.lc x0 x1 x2 x3) e
  | .lr x0 x1, e => okE N sc (.lr x0 x1) e
  | .rvl x0, e => okE N sc (.rvl x0) e
  | .srk x0 x1, e => okE N sc (.srk x0 x1) e
  | .dgt x0 x1 x2, e => okE N sc (.dgt x0 x1 x2) e
  | .lix x0 x1, e => okE N sc (.lix x0 x1) e
def isRp : ME → Bool
  | .rep _ _ _ => true
  | _ => false
theorem okET_star {N : List Str} {sc : Scope} {m : ME} {a : Expr} {p : Pos} : okET N sc m (.Starred a p) = false := by
  cases m <;> first | rfl | exact ok_star
theorem starT_cons {N : List Str} {sc : Scope} {m : ME} {e : Expr} (h : okET N sc m e = true) (es : List Expr) (env : Env) : starEach (e :: es) env = (false, eval e env) :: starEach es env := by
  cases e with
  | Starred a p => rw [okET_star] at h; cases h
  | _ => rfl
theorem few1T {N : List Str} {sc : Scope} {m : ME} {v : Expr} {cp : Pos} {env : Env} (h : okET N sc m v = true) : ((backTo cp (starEach [v] env)).all (fun x => !x.1) && (backToKw cp (keywordEach [] env)).all (fun x => x.1.isSome)
      && decide ([v].length + ([] : List Keyword).length + (if ([] : List Keyword).isEmpty then 0 else 1) < 30)) = true := by
  rw [starT_cons h]
  rfl
section
variable {Γ : FT} {k fuel : Nat} {ex : Ex}
theorem sET : ∀ (m : ME) {X : Cx} {E : XK} (e : Expr), Ok X Γ E k → okET X.N X.env.scope m e = true → PET X e (tE Γ E X.mg m)
  | .rep a y z, X, E, e, ok, h => by
    simp only [okET] at h
    split at h
    · simp only [Bool.and_eq_true, decide_eq_true_eq, Bool.not_eq_true'] at h
      obtain ⟨⟨⟨⟨⟨rfl, rfl⟩, rfl⟩, h1⟩, h2⟩, h3⟩ := h
      have hat : ∀ x : Expr, okE X.N X.env.scope a x = true → attributeBase x "replace" X.env (eval x X.env) = eval x X.env := fun x hx => by
        unfold attributeBase
        split
        · exfalso
          cases a <;> simp [okE] at hx
        · rfl
      refine petImp (CwR.pet_replC (sE a _ ok h3).1 h1 (by rfl) (hat _ h3) h2) fun σ H Q ⟨H0, M0, M, env, eo, q⟩ => ?_
      simp only [evE] at q
      refine ⟨H0, M0, M, env, eo, (Rp.bind q).imp fun r _ q v H1 s1 rv => ?_⟩
      split at q
      · rename_i t hd
        split at q
        · rename_i hz
          have q := Rp.ok q
          have c := rv.cn
          rw [hd] at c
          cases c with
          | str => exact ⟨t, rfl, hz, q _ _ s1 (show Dt _ _ _ _ from .str _)⟩
        · exact q.elim
      · exact q.elim
    · cases h
  | .bin op a b, X, E, e, ok, h => by
    simp only [okET] at h
    split at h
    · simp only [Bool.and_eq_true, decide_eq_true_eq] at h
      obtain ⟨⟨rfl, h1⟩, h2⟩ := h
      refine petImp (CwR.pet_op (bin_ok op) (sET a _ ok h1) (sET b _ ok h2)) fun σ H Q ⟨H0, M0, M, env, eo, q⟩ => ?_
      simp only [evE] at q
      refine ⟨H0, M0, M, env, eo, (Rp.bind q).imp fun r _ q v H1 s1 rv => ⟨H0, M0, M, env, eo.up s1, ((Rp.bind q).same s1).imp fun r2 _ q u H2 s2 rv2 => ?_⟩⟩
      obtain ⟨nw, z, e, q⟩ := Rp.lift q
      exact ⟨Lm H0 M (r.m || r2.m), r.d, r2.d, nw, z, (sm_cn s2 rv.cn).wk fun _ => Lm.orl, rv2.cn.wk fun _ => Lm.orr, e, fun v' H3 zn => q v' H3 ((s1.trans s2).trans zn.1) (zn_rv (eo.up (s1.trans s2)) (s1.trans s2) zn)⟩
    · cases h
  | .v x0, X, E, e, ok, h => CwR.PET.of (sE (.v x0) e ok h).1
  | .kn, X, E, e, ok, h => CwR.PET.of (sE (.kn) e ok h).1
  | .kb x0, X, E, e, ok, h => CwR.PET.of (sE (.kb x0) e ok h).1
  | .ki x0, X, E, e, ok, h => CwR.PET.of (sE (.ki x0) e ok h).1
  | .ks x0, X, E, e, ok, h => CwR.PET.of (sE (.ks x0) e ok h).1
  | .lst x0, X, E, e, ok, h => CwR.PET.of (sE (.lst x0) e ok h).1
  | .tup x0, X, E, e, ok, h => CwR.PET.of (sE (.tup x0) e ok h).1
  | .dK0, X, E, e, ok, h => CwR.PET.of (sE (.dK0) e ok h).1
  | .neg x0, X, E, e, ok, h => CwR.PET.of (sE (.neg x0) e ok h).1
  | .cmp x0 x1 x2, X, E, e, ok, h => CwR.PET.of (sE (.cmp x0 x1 x2) e ok h).1
  | .chn x0 x1 x2 x3 x4, X, E, e, ok, h => CwR.PET.of (sE (.chn x0 x1 x2 x3 x4) e ok h).1
  | .bop x0 x1, X, E, e, ok, h => CwR.PET.of (sE (.bop x0 x1) e ok h).1
  | .not_ x0, X, E, e, ok, h => CwR.PET.of (sE (.not_ x0) e ok h).1
  | .ite x0 x1 x2, X, E, e, ok, h => CwR.PET.of (sE (.ite x0 x1 x2) e ok h).1
  | .ix x0 x1, X, E, e, ok, h => CwR.PET.of (sE (.ix x0 x1) e ok h).1
  | .sl x0 x1 x2, X, E, e, ok, h => CwR.PET.of (sE (.sl x0 x1 x2) e ok h).1
  | .bi x0 x1, X, E, e, ok, h => CwR.PET.of (sE (.bi x0 x1) e ok h).1
  | .isi x0 x1, X, E, e, ok, h => CwR.PET.of (sE (.isi x0 x1) e ok h).1
  | .mt x0 x1 x2, X, E, e, ok, h => CwR.PET.of (sE (.mt x0 x1 x2) e ok h).1
  | .call x0 x1, X, E, e, ok, h => CwR.PET.of (sE (.call x0 x1) e ok h).1
  | .lc x0 x1 x2 x3, X, E, e, ok, h => CwR.PET.of (sE (.lc x0 x1 x2 x3) e ok h).1
  | .lr x0 x1, X, E, e, ok, h => CwR.PET.of (sE (.lr x0 x1) e ok h).1
  | .rvl x0, X, E, e, ok, h => CwR.PET.of (sE (.rvl x0) e ok h).1
  | .srk x0 x1, X, E, e, ok, h => CwR.PET.of (sE (.srk x0 x1) e ok h).1
  | .dgt x0 x1 x2, X, E, e, ok, h => CwR.PET.of (sE (.dgt x0 x1 x2) e ok h).1
  | .lix x0 x1, X, E, e, ok, h => CwR.PET.of (sE (.lix x0 x1) e ok h).1
end
mutual
def okST (ex : Ex) (N : List Str) (sc : Scope) : MS → Stmt → Bool
  | .app i e, s => match s with | .Expr (.Call (.Attribute (.Name x _) m ap) [v] [] cp) _ => slotOk N sc i x && decide (m = "append") && (ap.endLine == cp.line) && okET N sc e v | _ => false
  | .ife c a b, s => match s with | .If t x y _ => okE N sc c t && okSsT ex N sc a x && okSsT ex N sc b y | _ => false
  | .for_ g it b, s => match s with | .For tg iter body [] _ => okG N sc g tg && okI N sc it tg iter && okSsT ex N sc b body | _ => false
  | .skip, s => okS ex N sc (.skip) s
  | .set i e own, s => if isRp e then (match s with | .Assign [.Name x p] v _ => tgOk N sc i (.Name x p) && okET N sc e v | _ => false) else okS ex N sc (.set i e own) s
  | .unp x0 x1, s => okS ex N sc (.unp x0 x1) s
  | .par x0 x1 x2 x3, s => okS ex N sc (.par x0 x1 x2 x3) s
  | .ret x0, s => okS ex N sc (.ret x0) s
  | .retN, s => okS ex N sc (.retN) s
  | .reto x0, s => okS ex N sc (.reto x0) s
  | .whl x0 x1, s => okS ex N sc (.whl x0 x1) s
  | .exp x0, s => okS ex N sc (.exp x0) s
  | .ext x0 x1, s => okS ex N sc (.ext x0 x1) s
  | .put x0 x1 x2, s => okS ex N sc (.put x0 x1 x2) s
  | .ins x0 x1 x2, s => okS ex N sc (.ins x0 x1 x2) s
  | .popS x0 x1, s => okS ex N sc (.popS x0 x1) s
  | .popI x0 x1 x2, s => okS ex N sc (.popI x0 x1 x2) s
  | .raise_ x0 x1, s => okS ex N sc (.raise_ x0 x1) s
  | .mov x0 x1, s => okS ex N sc (.mov x0 x1) s
  | .dput x0 x1 x2, s => okS ex N sc (.dput x0 x1 x2) s
  | .try_ x0 x1 x2 x3, s => okS ex N sc (.try_ x0 x1 x2 x3) s
  | .brk, s => okS ex N sc (.brk) s
  | .cnt, s => okS ex N sc (.cnt) s
  | .never, s => okS ex N sc (.never) s
def okSsT (ex : Ex) (N : List Str) (sc : Scope) : MSs → List Stmt → Bool
  | .nil, ss => match ss with | [] => true | _ => false
  | .cons m r, ss => match ss with | s :: t => okST ex N sc m s && okSsT ex N sc r t | _ => false
  | .frz _ r, ss => okSsT ex N sc r ss
end
section
variable {Γ : FT} {k fuel : Nat} {ex : Ex}
theorem set_repT {X : Cx} {E : XK} {i : Nat} {e : ME} {x : Str} {p pos : Pos} {v : Expr} (o : OkS X Γ E k ex) (hr : isRp e = true) (h1 : tgOk X.N X.env.scope i (.Name x p) = true) (h2 : okET X.N X.env.scope e v = true) :
    PST X (.Assign [.Name x p] v pos) (tAsg (tE Γ E X.mg e) (gName i)) := by
  have pv := sET e v o.ok h2
  simp only [tgOk, Bool.and_eq_true, decide_eq_true_eq] at h1
  obtain ⟨hN, hk⟩ := h1
  have hloc : Loc X.env.scope x := by
    unfold kL at hk
    split at hk
    · rename_i q; exact .inl q
    · rename_i q; exact .inr q
    · cases hk
  have sw : swapsWith v (some (.Name x p)) pos.line X.env = pure false := by
    cases e <;> simp [isRp] at hr
    simp only [okET] at h2
    split at h2
    · rfl
    · cases h2
  exact pst_set o.ok.nd hN hloc pv sw (.inl (o.fn x))
mutual
theorem sST : ∀ (m : MS) {X : Cx} {E : XK} (s : Stmt), OkS X Γ E k ex → okST ex X.N X.env.scope m s = true → PST X s (tS Γ fuel E X.mg m)
  | .app i e, X, E, s, o, h => by
    simp only [okST] at h
    split at h
    · rename_i x p m ap v cp pos
      simp only [Bool.and_eq_true, decide_eq_true_eq] at h
      obtain ⟨⟨⟨h1, rfl⟩, h2⟩, h3⟩ := h
      refine pstImp (pst_expr (pet_bm PySem.F.plainAttrs_list PySem.F.slot_list_append PySem.F.type_list_append mt_append (pe_v h1) (pat_cons (sET e v o.ok h3) pat_nil (starT_cons h3 _ _)) attr_name (few1T h3) h2 (starT_cons h3 _ _) rfl) rfl) fun D σ H ⟨H0, M0, M, env, eo, q⟩ => ?_
      simp only [evS] at q
      split at q
      · rename_i m ds ei
        obtain ⟨a, xs, g1, g2, g3, g4, g5⟩ := own_at eo ei
        refine ⟨_, g1, .inl ⟨rfl, xs, .inl (.inl g4)⟩, H0, M0, M, env, eo, (Sp.of eo q).imp fun r _ q v H1 s1 rv => ?_⟩
        obtain ⟨pr, es, q⟩ := sp_sto q
        split at q
        · rename_i hz
          have hz := of_decide_eq_true hz
          have q4 := s1 _ _ g4
          refine ⟨a, xs, v, rfl, rfl, q4, by rw [g5.length]; exact hz, ?_⟩
          obtain ⟨k, ev⟩ := (eo.up s1).mut (o := .lst (xs ++ [v])) (m' := m || pr.1) (d' := .list (ds ++ [pr.2])) ei g1 g2 g3 trivial
            (.lst upd_same ((dts_mut g2 q4 ((sm_dts s1 g5).wk fun _ => Lm.orl)).append (dts_mut g2 q4 (.cons ((rv.sto es).wk fun _ => Lm.orr) .nil))))
          exact q σ _ M k ((Evo.post s1).trans ev)
        · exact q.elim
      · exact q.elim
    · cases h
  | .ife c a b, X, E, s, o, h => by
    simp only [okST] at h
    split at h
    · simp only [Bool.and_eq_true] at h
      obtain ⟨⟨h1, h2⟩, h3⟩ := h
      refine pstImp (CwR.pst_if (sE c _ o.ok h1).2 (sSsT a _ o h2) (sSsT b _ o h3)) fun D σ H ⟨H0, M0, M, env, eo, q⟩ => ?_
      simp only [evS] at q
      refine ⟨H0, M0, M, env, eo, (Sp.of eo q).imp fun t _ q H1 s1 => ?_⟩
      cases t with
      | true => exact ⟨H0, M0, M, env, eo.up s1, q.base (Evo.post s1)⟩
      | false => exact ⟨H0, M0, M, env, eo.up s1, q.base (Evo.post s1)⟩
    · cases h
  | .for_ g it b, X, E, s, o, h => by
    simp only [okST] at h
    split at h
    · rename_i tg iter body pos
      simp only [Bool.and_eq_true] at h
      obtain ⟨⟨h1, h2⟩, h3⟩ := h
      refine pstImp (pst_forT o.own o.ok.calm (sI it tg iter o.ok h2) (g_ok o.ok.nd o.ok.calm o.fnIn h1) (sSsT b body o h3) (no_setI h2)) fun D σ H ⟨H0, M0, M, env, eo, q⟩ => ?_
      simp only [evS] at q
      refine ⟨H0, M0, M, env, eo, (Sp.of eo q).imp fun p _ q J H1 s1 wk => ?_⟩
      obtain ⟨G, Y, w, hG, hY⟩ := wk
      generalize hF : (fun d e => Fl.of (bindG g p.1 d e) fun e' => evSs Γ fuel b e') = F at q
      have eo1 := eo.up s1
      refine for_it w (fun i σ2 H2 => ∃ M2 env2, EnvOk H0 M0 H2 M2 σ2 env2 ∧ Evo H1 M H2 M2 ∧ Sp E X.mg D H0 M0 H M (forR F (p.2.drop i) env2)) ⟨M, env, eo1, Evo.refl _ _, by simpa using q⟩ ?_ ?_ ?_
      · rintro i σ2 H2 _ ⟨M2, env2, _, e2, _⟩
        exact hG H2 _ (e2.kp eo1.dom)
      · rintro i x σ2 H2 H3 hlt ⟨M2, env2, k2, e2, q2⟩ y
        have hd : p.2[i]? = some p.2[i] := List.getElem?_eq_getElem hlt
        rw [List.drop_eq_getElem_cons hlt] at q2
        generalize p.2[i] = d at hd q2
        obtain ⟨s3, t3⟩ := hY i H2 x H3 d _ (e2.kp eo1.dom) y hd
        have k3 := k2.up s3
        unfold forR at q2
        have hFd : F d env2 = Fl.of (bindG g p.1 d env2) fun e' => evSs Γ fuel b e' := by rw [← hF]
        rw [hFd] at q2
        cases e3 : bindG g p.1 d env2 with
        | bad => rw [e3] at q2; exact q2.elim
        | err x => exact absurd e3 (bindG_ne _ _ _ _ _)
        | ok env3 =>
          rw [e3] at q2
          refine bind_ok k3 t3 e3 fun σ3 k4 _ _ => ⟨H0, M0, M2, env3, k4, ?_⟩
          have q2 : Sp E X.mg D H0 M0 H M (match evSs Γ fuel b env3 with
            | .next e => forR F (p.2.drop (i + 1)) e
            | .cnt e => forR F (p.2.drop (i + 1)) e
            | .brk e => .next e
            | a => a) := q2
          cases e5 : evSs Γ fuel b env3 with
          | bad => rw [e5] at q2; exact q2
          | err x => rw [e5] at q2; exact q2
          | ret r => rw [e5] at q2; exact q2
          | next env4 => rw [e5] at q2; exact fun σ' H' M' k' e' => ⟨M', env4, k', e2.trans ((Evo.post s3).trans e'), q2⟩
          | cnt env4 => rw [e5] at q2; exact fun σ' H' M' k' e' => ⟨M', env4, k', e2.trans ((Evo.post s3).trans e'), q2⟩
          | brk env4 =>
            rw [e5] at q2
            exact fun σ' H' M' k' e' => q2 σ' H' M' k' ((Evo.pre s1 e2).trans ((Evo.post s3).trans e'))
      · rintro σ2 H2 ⟨M2, env2, k2, e2, q2⟩
        rw [List.drop_length] at q2
        exact q2 σ2 H2 M2 k2 (Evo.pre s1 e2)
    · cases h
  | .skip, X, E, s, o, h => PST.of (sS (.skip) s o h)
  | .set i e own, X, E, s, o, h => by
    simp only [okST] at h
    split at h
    · rename_i hr
      split at h
      · rename_i x p v pos
        simp only [Bool.and_eq_true] at h
        obtain ⟨h1, h2⟩ := h
        refine pstImp (set_repT o hr h1 h2) fun D σ H ⟨H0, M0, M, env, eo, q⟩ => ?_
        simp only [evS] at q
        exact ⟨H0, M0, M, env, eo, (Sp.of eo q).imp fun r _ q v H1 s1 rv => put1_ok eo s1 rv q⟩
      · cases h
    · exact PST.of (sS (.set i e own) s o h)
  | .unp x0 x1, X, E, s, o, h => PST.of (sS (.unp x0 x1) s o h)
  | .par x0 x1 x2 x3, X, E, s, o, h => PST.of (sS (.par x0 x1 x2 x3) s o h)
  | .ret x0, X, E, s, o, h => PST.of (sS (.ret x0) s o h)
  | .retN, X, E, s, o, h => PST.of (sS (.retN) s o h)
  | .reto x0, X, E, s, o, h => PST.of (sS (.reto x0) s o h)
  | .whl x0 x1, X, E, s, o, h => PST.of (sS (.whl x0 x1) s o h)
  | .exp x0, X, E, s, o, h => PST.of (sS (.exp x0) s o h)
  | .ext x0 x1, X, E, s, o, h => PST.of (sS (.ext x0 x1) s o h)
  | .put x0 x1 x2, X, E, s, o, h => PST.of (sS (.put x0 x1 x2) s o h)
  | .ins x0 x1 x2, X, E, s, o, h => PST.of (sS (.ins x0 x1 x2) s o h)
  | .popS x0 x1, X, E, s, o, h => PST.of (sS (.popS x0 x1) s o h)
  | .popI x0 x1 x2, X, E, s, o, h => PST.of (sS (.popI x0 x1 x2) s o h)
  | .raise_ x0 x1, X, E, s, o, h => PST.of (sS (.raise_ x0 x1) s o h)
  | .mov x0 x1, X, E, s, o, h => PST.of (sS (.mov x0 x1) s o h)
  | .dput x0 x1 x2, X, E, s, o, h => PST.of (sS (.dput x0 x1 x2) s o h)
  | .try_ x0 x1 x2 x3, X, E, s, o, h => PST.of (sS (.try_ x0 x1 x2 x3) s o h)
  | .brk, X, E, s, o, h => PST.of (sS (.brk) s o h)
  | .cnt, X, E, s, o, h => PST.of (sS (.cnt) s o h)
  | .never, X, E, s, o, h => PST.of (sS (.never) s o h)
theorem sSsT : ∀ (m : MSs) {X : Cx} {E : XK} (s : List Stmt), OkS X Γ E k ex → okSsT ex X.N X.env.scope m s = true → PSsT X s (tSs Γ fuel E X.mg m)
  | .nil, X, E, s, o, h => by
    simp only [okSsT] at h
    split at h
    · exact psstImp CwR.psst_nil fun D σ H ⟨H0, M0, M, env, eo, q⟩ => q σ H M eo (Evo.refl _ _)
    · cases h
  | .cons m r, X, E, s, o, h => by
    simp only [okSsT] at h
    split at h
    · simp only [Bool.and_eq_true] at h
      refine psstImp (psst_cons (sST m _ o h.1) (sSsT r _ o h.2)) fun D σ H ⟨H0, M0, M, env, eo, q⟩ => ?_
      simp only [evSs] at q
      exact ⟨H0, M0, M, env, eo, q.then fun env' σ' H' M' q' k' e' => ⟨H0, M0, M', env', k', q'.base e'⟩⟩
    · cases h
  | .frz i r, X, E, s, o, h => by
    simp only [okSsT] at h
    refine psstImp (sSsT r s o h) fun D σ H ⟨H0, M0, M, env, eo, q⟩ => ?_
    simp only [evSs] at q
    split at q
    · rename_i m d e
      obtain ⟨a, h1, h2, h3, t⟩ := eo.sl i _ e
      obtain ⟨k, ev⟩ := eo.freeze e h1 h3 t
      exact ⟨H0, M0, _, _, k, q.base ev⟩
    · exact q.elim
end
end
section
variable {P : Program} {w : World} {K : PySem.W.Frag} {mg : Str → Option Value} {base : Heap}
theorem fn_okT {x qual : Str} {st : Stmt} {fa : Addr} {fd : FuncData} {N ps : List Str} {k : Nat} {Γ : FT} {ex : Ex} (F : Fun K x qual st fa fd) (S : FnScope N ps (defScope st)) (mf : MF) (hn : mf.slots = N.length) (hp : ps.length ≤ N.length) (hp1 : 1 ≤ ps.length) (fuel : List D → Nat)
    (hnc : ((defScope st).names.all fun y => !(y.2 == NameKind.cell)) = true) (hc : okSsT ex N (defScope st) mf.body (defBody st) = true) (blt : Blt mg) (fns : FnsOk P w K mg base k Γ) (rz : RzOk ex mg P w K base) :
    FnOk P w K mg base (L2.CX P w) (k + 3) fa fd ps (spG mg ps.length fun ds => runF Γ (fuel ds) mf ds) := by
  obtain ⟨oc, od, kV, doc, pm, an, cdv, ct, osl, rfl, lk, hcd⟩ := F.ex
  refine fn_ofT lk hcd S (fun y hy e => ?_) hp1 (fun vs H Q E h => h.1) fun A outer s H vs Q E hr h => ?_
  · have := List.all_eq_true.mp hnc y hy
    rw [e] at this
    exact absurd this (by decide)
  obtain ⟨hl, M, ds, hM, hD, h⟩ := h
  have tk : Takes (cxOf (L2.CX P w) P w K mg base N qual (defScope st) fa cdv A outer s H E) (fun c d _ H => E c d H) := takes_of rfl rfl rfl rfl
  have o : OkS (cxOf (L2.CX P w) P w K mg base N qual (defScope st) fa cdv A outer s H E) Γ E k ex :=
    ⟨⟨rfl, S.nd, by have := hr.un; show (A.deeper _).units + 65 < cLine; omega, hr, tk, blt, fns⟩, fun _ => rfl, S.kind, passes_of rfl, fun x m j p p2 p3 pos hx hg => rz.rz _ E x m j p p2 p3 pos rfl rfl rfl rfl rfl tk hx hg, rfl, rfl, rz.cl, rz.xf⟩
  refine ⟨_, sSsT mf.body (defBody st) o hc, H, M, M, startE mf.slots ds, ?_, sp_run h⟩
  rw [hn]
  exact env_start hM hD (by rw [hl]; exact hp)
theorem fns_putT {x : Str} {st : Stmt} {N ps : List Str} {k : Nat} {Γ : FT} {ex : Ex} (G : FnsOk P w K mg base k Γ) (h : Has K mg x st ps) (S : FnScope N ps (defScope st)) (mf : MF) (fuel : List D → Nat)
    (hc : (decide (mf.slots = N.length) && decide (ps.length ≤ N.length) && okSsT ex N (defScope st) mf.body (defBody st)) = true) (hnc : ((defScope st).names.all fun y => !(y.2 == NameKind.cell)) = true) (hp1 : 1 ≤ ps.length) (blt : Blt mg) (rz : RzOk ex mg P w K base) :
    FnsOk P w K mg base (k + 3) (put Γ x ps.length fun ds => runF Γ (fuel ds) mf ds) := by
  obtain ⟨fa, fd, F, hm, hb⟩ := h
  simp only [Bool.and_eq_true, decide_eq_true_eq] at hc
  have F2 := fn_okT (P := P) (w := w) (base := base) F S mf hc.1.1 hc.1.2 hp1 fuel hnc hc.2 blt G rz
  intro f n g e
  unfold put at e
  split at e
  · rename_i e1
    subst e1
    cases e
    exact ⟨fa, fd, ps, F2, hm, F.kp, hb⟩
  · obtain ⟨fa, fd, ps, F3, q⟩ := G f n g e
    exact ⟨fa, fd, ps, F3.mono (by omega), q⟩
end
end En
set_option Elab.async false
set_option linter.all false
set_option maxRecDepth 100000
set_option maxHeartbeats 4000000
namespace En
open PySem L2

theorem rep_dash (z c : Nat) (m : Bool) : repR ⟨#[45]⟩ ⟨#[z]⟩ (.fr m (tx [c])) = .ok (.fr false (tx [if c = 45 then z else c])) := by
  have e3 : (Txt.replace ⟨[c].toArray⟩ ⟨#[45]⟩ ⟨#[z]⟩).cps.toList = [if c = 45 then z else c] := by
    rw [StrLaws.replace_list (by show 1 ≤ (1 : Nat); decide)]
    exact replS_one 45 z [c]
  show (if (⟨[c].toArray⟩ : Str).length + ((⟨[c].toArray⟩ : Str).length + 1) * (⟨#[z]⟩ : Str).length ≤ 16777216 then R.ok (Rv.fr false (.str (Txt.replace ⟨[c].toArray⟩ ⟨#[45]⟩ ⟨#[z]⟩))) else .bad) = _
  have e1 : (⟨[c].toArray⟩ : Str).length = 1 := by simp [Str.length]
  have e2 : (⟨#[z]⟩ : Str).length = 1 := by simp [Str.length]
  rw [e1, e2, if_pos (by decide), str_tx, e3]
namespace M
def halved : MF := ⟨4, (.cons (.set 2 (.lst .nil) true) (.cons (.for_ (.n 3) (.e (.v 0)) (.cons (.app 2 (.bin .Add (.bin .Add (.sl (.v 3) .no (.so (.v 1))) (.rep (.ix (.v 3) (.v 1)) "-" "0")) (.sl (.v 3) (.so (.bin .Add (.v 1) (.ki 1))) .no))) (.cons (.app 2 (.bin .Add (.bin .Add (.sl (.v 3) .no (.so (.v 1))) (.rep (.ix (.v 3) (.v 1)) "-" "1")) (.sl (.v 3) (.so (.bin .Add (.v 1) (.ki 1))) .no))) .nil))) (.cons (.reto 2) .nil)))⟩
theorem halved_ok {Γ : FT} {n : Nat} {X : Str → Prop} {K : Rv → Prop} (ss : List Tx) (m p : Nat) (hm : m ≤ 1000) (hp : p < m) (hl : ss.length ≤ 1000) (hs : ∀ s ∈ ss, Row m s) (q : ∀ hs : List Tx, hs.length = 2 * ss.length → (∀ h ∈ hs, Row m h) → K (.ow false (.list (hs.map tx)))) : RS X (runF Γ n halved [.list (ss.map tx), .int (p : Int)]) K := by
  refine rs_run ?_
  simp [halved, startE]
  obtain ⟨I, hI⟩ : ∃ I : Nat → List Sl → Prop, ∀ i e, I i e = ∃ (s3 : Sl) (hs : List Tx) (L : D), e = [.fr true (.list (ss.map tx)), .fr false (.int (p : Int)), .ow false L, s3] ∧ L = .list (hs.map tx) ∧ hs.length = 2 * i ∧ ∀ h ∈ hs, Row m h := ⟨_, fun _ _ => rfl⟩
  refine fs_for I ?_ (fun i d e hd h => ?_) (fun e h => ?_)
  · rw [hI]
    exact ⟨_, [], _, rfl, rfl, rfl, by simp⟩
  · rw [hI] at h
    obtain ⟨s3, hs', L, rfl, rfl, hlen, hrow⟩ := h
    obtain ⟨hi, rfl⟩ := map_at hd
    have hr := hs _ (List.getElem_mem hi)
    generalize ss[i] = s at *
    have hsl := hr.1
    have hps : p < s.length := by omega
    have ir := ix_tx (l := s) (sz _ (by omega)) (List.getElem?_eq_getElem hps)
    have sg := hr.2 _ (List.getElem_mem hps)
    generalize s[p] = c at *
    have r0 := rep_dash 48 c
    have r1 := rep_dash 49 c
    have l1 : hs'.length < sizeLine := slt (by omega)
    have l2 : hs'.length + 1 < sizeLine := slt (by omega)
    have g0 : Sg (if c = 45 then 48 else c) := by split <;> first | exact .inl rfl | exact sg
    have g1 : Sg (if c = 45 then 49 else c) := by split <;> first | exact .inr (.inl rfl) | exact sg
    have e0 : (⟨#[45]⟩ : Str) = Str.ofString "-" := rfl
    have e1 : (⟨#[48]⟩ : Str) = Str.ofString "0" := rfl
    have e2 : (⟨#[49]⟩ : Str) = Str.ofString "1" := rfl
    rw [e0, e1] at r0
    rw [e0, e2] at r1
    generalize (if c = 45 then 48 else c) = x at *
    generalize (if c = 45 then 49 else c) = y at *
    simp [sp_to (l := s) (i := p) (by omega), sp_from (l := s) (i := p) (by omega), ir, r0, r1, sp_a1 (l := s) (i := p) (by omega), sp_a2 (l := s) (i := p) (by omega) hps, l1, l2]
    rw [hI]
    refine ⟨_, hs' ++ [s.set p x] ++ [s.set p y], _, rfl, by simp, by simp; omega, fun h hh => ?_⟩
    rcases List.mem_append.mp hh with hh | hh
    · rcases List.mem_append.mp hh with hh | hh
      · exact hrow h hh
      · rw [List.mem_singleton.mp hh]; exact row_set hr g0
    · rw [List.mem_singleton.mp hh]; exact row_set hr g1
  · rw [hI] at h
    obtain ⟨s3, hs', L, rfl, rfl, hlen, hrow⟩ := h
    simp
    exact q hs' (by simpa using hlen) hrow
def two9 : MF := ⟨7, (.cons (.set 2 (.sl (.v 0) (.so (.ki 3)) (.so (.ki 11))) false) (.cons (.set 3 (.bin .Mod (.call "_law_cell_at" (.cons (.v 0) (.cons (.ki 2) .nil))) (.bin .Add (.bi "len" (.cons (.v 2) .nil)) (.ki 1))) false) (.cons (.set 4 (.call "_law_shorts" (.cons (.sl (.v 2) .no (.so (.v 3))) (.cons (.v 1) .nil))) false) (.cons (.set 5 (.call "_law_shorts" (.cons (.sl (.v 2) (.so (.v 3)) .no) (.cons (.v 1) .nil))) false) (.cons (.set 6 (.bin .Mod (.bin .FloorDiv (.call "_law_cell_at" (.cons (.v 0) (.cons (.ki 2) .nil))) (.ki 9)) (.ki 5)) false) (.cons (.ife (.cmp .Eq (.v 6) (.ki 1)) (.cons (.set 5 (.rvl (.v 4)) false) .nil) .nil) (.cons (.ife (.cmp .Eq (.v 6) (.ki 2)) (.cons (.set 5 (.call "_law_halved" (.cons (.rvl (.v 4)) (.cons (.bin .Mod (.bin .FloorDiv (.call "_law_cell_at" (.cons (.v 0) (.cons (.ki 1) .nil))) (.ki 5)) (.v 1)) .nil))) false) .nil) .nil) (.cons (.ife (.cmp .Eq (.v 6) (.ki 3)) (.cons (.set 5 (.bin .Add (.v 5) (.v 4)) false) .nil) .nil) (.cons (.ret (.lst (.cons (.v 4) (.cons (.v 5) .nil)))) .nil)))))))))⟩
def HalvedAt (Γ : FT) : Prop := ∃ Γ' n, Γ "_law_halved" = some (2, fun ds => runF Γ' n halved ds)
theorem two9_ok {Γ : FT} {n : Nat} {X : Str → Prop} {K : Rv → Prop} (hc : CellAt Γ) (hs : ShortsAt Γ) (hh : HalvedAt Γ) (ns : List Int) (hns : ns.length ≤ 63) (m : Nat) (hm1 : 1 ≤ m) (hm : m ≤ 1000) (q : ∀ a b : List Tx, a.length ≤ 200 → b.length ≤ 200 → (∀ s ∈ a, Row m s) → (∀ s ∈ b, Row m s) → K (.ow false (.list [.list (a.map tx), .list (b.map tx)]))) : RS X (runF Γ n two9 [.list (ns.map .int), .int (m : Int)]) K := by
  obtain ⟨Γ1, n1, e1⟩ := hc
  obtain ⟨Γ2, n2, hs2, e2⟩ := hs
  obtain ⟨Γ3, n3, e3⟩ := hh
  have cl : ∀ k : Int, 0 ≤ k → runF Γ1 n1 cell [.list (ns.map .int), .int k] = .ok (.fr false (.int (cellI ns k))) := fun k h => cell_eq ns k h
  refine rs_run ?_
  have hcl := cut_le ns (some 3) (some 11)
  simp [-fs_if, two9, startE, e_call e1, e_call e2, cl, cut_map, En.mod_int (i := cellI ns 2) (j := ((cutL ns (some 3) (some 11)).length : Int) + 1) (by omega)]
  generalize cutL ns (some 3) (some 11) = cs at *
  obtain ⟨k, hk⟩ : ∃ k : Nat, (k : Int) = cellI ns 2 % ((cs.length : Int) + 1) := ⟨(cellI ns 2 % ((cs.length : Int) + 1)).toNat, by
    have := Int.emod_nonneg (cellI ns 2) (show ((cs.length : Int) + 1) ≠ 0 by omega)
    omega⟩
  rw [← hk]
  have c1 := cut_le cs none (some (k : Int))
  have c2 := cut_le cs (some (k : Int)) none
  refine shorts_ok (Γ := Γ2) hs2 (cutL cs none (some (k : Int))) m hm (by omega) fun a hal ha => ?_
  simp [-fs_if, e_call e2, cut_map]
  refine shorts_ok (Γ := Γ2) hs2 (cutL cs (some (k : Int)) none) m hm (by omega) fun b hbl hb => ?_
  simp [-fs_if, e_call e1, cl, En.mod_int, En.div_int]
  obtain ⟨G, hG⟩ : ∃ G : Nat → List Sl → Prop, ∀ z e, G z e = ∃ b : List Tx, b.length ≤ z ∧ (∀ s ∈ b, Row m s) ∧ e = [.fr true (.list (ns.map .int)), .fr false (.int (m : Int)), .fr true (.list (cs.map .int)), .fr false (.int (k : Int)), .fr false (.list (a.map tx)), .fr false (.list (b.map tx)), .fr false (.int (cellI ns 2 / 9 % 5))] := ⟨_, fun _ _ => rfl⟩
  refine fs_cut (G 63) (fun _ => ?_) (fun _ => ?_) (fun e h => ?_)
  · simp
    rw [hG, ← List.map_reverse]
    exact ⟨a.reverse, by simp; omega, fun s h => ha s (List.mem_reverse.mp h), rfl⟩
  · simp
    rw [hG]
    exact ⟨b, by omega, hb, rfl⟩
  rw [hG] at h
  obtain ⟨b, hbl, hb, rfl⟩ := h
  simp [-fs_if]
  refine fs_cut (G 126) (fun _ => ?_) (fun _ => ?_) (fun e h => ?_)
  · obtain ⟨p, hp, hpm⟩ : ∃ p : Nat, (p : Int) = cellI ns 1 / 5 % (m : Int) ∧ p < m := by
      have h1 := Int.emod_nonneg (cellI ns 1 / 5) (show (m : Int) ≠ 0 by omega)
      have h2 := Int.emod_lt_of_pos (cellI ns 1 / 5) (show (0 : Int) < (m : Int) by omega)
      exact ⟨(cellI ns 1 / 5 % (m : Int)).toNat, by omega, by omega⟩
    simp [e_call e3, e_call e1, cl, En.div_int, En.mod_int (i := cellI ns 1 / 5) (j := (m : Int)) (by omega), ← hp]
    rw [← List.map_reverse]
    refine halved_ok (Γ := Γ3) a.reverse m p hm hpm (by simp; omega) (fun s h => ha s (List.mem_reverse.mp h)) fun hs hl hrow => ?_
    simp
    rw [hG]
    exact ⟨hs, by rw [List.length_reverse] at hl; omega, hrow, rfl⟩
  · simp
    rw [hG]
    exact ⟨b, by omega, hb, rfl⟩
  rw [hG] at h
  obtain ⟨b, hbl, hb, rfl⟩ := h
  simp [-fs_if]
  refine fs_cut (G 190) (fun _ => ?_) (fun _ => ?_) (fun e h => ?_)
  · have al := add_list (a := b.map tx) (b := a.map tx) (sz _ (by simp; omega))
    rw [← List.map_append] at al
    simp [-List.map_append, al]
    rw [hG]
    refine ⟨b ++ a, by simp; omega, fun s h => ?_, rfl⟩
    exact (List.mem_append.mp h).elim (hb s) (ha s)
  · simp
    rw [hG]
    exact ⟨b, by omega, hb, rfl⟩
  rw [hG] at h
  obtain ⟨b, hbl, hb, rfl⟩ := h
  simp [sz 2 (by decide)]
  exact q a b (by omega) (by omega) ha hb
def heapMissing : MF := ⟨4, (.cons (.for_ (.n 2) (.e (.v 0)) (.cons (.set 3 (.call "pieces_beyond" (.cons (.lst (.cons (.v 2) .nil)) (.cons (.v 1) .nil))) false) (.cons (.ife (.cmp .NotEq (.v 3) (.lst .nil)) (.cons (.ret (.call "row_least" (.cons (.ix (.v 3) (.ki 0)) .nil))) .nil) .nil) .nil))) (.cons (.ret .kn) .nil))⟩
theorem heapMissing_ok {Γ : FT} {n : Nat} {X : Str → Prop} {K : Rv → Prop} (hb : BeyondAt Γ) (hl : LeastAt Γ) {w : Nat} {ps : List Nat} (hw : w ≤ 900) (hps : ps.length ≤ 8) (one other : List Tx) (h1 : ∀ r ∈ one, Row w r) (h2 : ∀ r ∈ other, Row w r)
    (t1 : ∀ r ∈ one, ∀ i x : Nat, r[i]? = some x → x ≠ 45 → i ∈ ps) (t2 : ∀ r ∈ other, ∀ i x : Nat, r[i]? = some x → x ≠ 45 → i ∈ ps)
    (q : ∀ d, ((d = .none ∧ ∀ l, Ltr w l → (∃ r ∈ one, Hold r l) → ∃ r ∈ other, Hold r l) ∨ ∃ l, d = tx l ∧ Ltr w l ∧ (∃ r ∈ one, Hold r l) ∧ ¬ ∃ r ∈ other, Hold r l) → K (.fr false d)) : RS X (runF Γ n heapMissing [.list (one.map tx), .list (other.map tx)]) K := by
  obtain ⟨Γ1, n1, hle1, e1⟩ := hb
  have el := hl
  refine rs_run ?_
  simp [heapMissing, startE]
  obtain ⟨I, hI⟩ : ∃ I : Nat → List Sl → Prop, ∀ i e, I i e = ∃ (s2 s3 : Sl), e = [.fr true (.list (one.map tx)), .fr true (.list (other.map tx)), s2, s3] ∧ ∀ r ∈ one.take i, ∀ l, Ltr w l → Hold r l → ∃ r ∈ other, Hold r l := ⟨_, fun _ _ => rfl⟩
  refine fs_for I ?_ (fun i d e hd h => ?_) (fun e h => ?_)
  · rw [hI]
    exact ⟨_, _, rfl, by simp⟩
  · rw [hI] at h
    obtain ⟨s2, s3, rfl, h⟩ := h
    obtain ⟨hi, rfl⟩ := map_at hd
    have g := take_get (List.getElem?_eq_getElem hi)
    have hm := List.getElem_mem hi
    have hr := h1 _ hm
    have htr := t1 _ hm
    generalize one[i] = row at *
    have P1 : Pcs w ps (fun l => Hold row l) [row] := ⟨fun r h => by rw [List.mem_singleton.mp h]; exact hr, fun r h => by rw [List.mem_singleton.mp h]; exact htr, List.pairwise_singleton _ _, fun l _ => by simp⟩
    simp [e_call e1, sz 1 (by decide)]
    refine beyond_ok (Γ := Γ1) hle1 hw hps [row] other P1 h2 t2 fun m out Q => ?_
    simp
    rw [bad_nil (G := []) out Q.row]
    cases out with
    | nil =>
      simp
      rw [hI]
      refine ⟨_, _, rfl, fun r hr' l hl hh => ?_⟩
      rw [g] at hr'
      rcases List.mem_append.mp hr' with hr' | hr'
      · exact h r hr' l hl hh
      · rw [List.mem_singleton.mp hr'] at hh
        refine Classical.byContradiction fun hn => ?_
        obtain ⟨r, hrr, _⟩ := (Q.cov l hl).mpr ⟨hh, fun r hr hh' => hn ⟨r, hr, hh'⟩⟩
        cases hrr
    | cons o out =>
      have ho := Q.row o List.mem_cons_self
      have hL := least_ltr ho
      obtain ⟨z1, z2⟩ := (Q.cov _ hL).mp ⟨o, List.mem_cons_self, least_hold o⟩
      have i0 : ∀ L : List D, semIx (.list (tx o :: L)) (.int 0) = some (tx o) := fun L => ix_list (i := 0) rfl
      simp [i0, e_call el]
      refine least_ok o (by have := ho.1; omega) ?_
      simp
      exact q _ (.inr ⟨_, rfl, hL, ⟨row, hm, z1⟩, fun ⟨r, hr', hh⟩ => z2 r hr' hh⟩)
  · rw [hI] at h
    obtain ⟨s2, s3, rfl, h⟩ := h
    rw [List.length_map, List.take_of_length_le (Nat.le_refl _)] at h
    try simp
    exact q _ (.inl ⟨rfl, fun l hl ⟨r, hr, hh⟩ => h r hr l hl hh⟩)
def heapParted : MF := ⟨3, (.cons (.set 2 (.call "heap_missing" (.cons (.v 0) (.cons (.v 1) .nil))) false) (.cons (.ife (.cmp .Is (.v 2) .kn) (.cons (.set 2 (.call "heap_missing" (.cons (.v 1) (.cons (.v 0) .nil))) false) .nil) .nil) (.cons (.ret (.v 2)) .nil)))⟩
def MissingAt (Γ : FT) : Prop := ∃ Γ' n, BeyondAt Γ' ∧ LeastAt Γ' ∧ Γ "heap_missing" = some (2, fun ds => runF Γ' n heapMissing ds)
theorem heapParted_ok {Γ : FT} {n : Nat} {X : Str → Prop} {K : Rv → Prop} (hmi : MissingAt Γ) {w : Nat} {ps : List Nat} (hw : w ≤ 900) (hps : ps.length ≤ 8) (one other : List Tx) (h1 : ∀ r ∈ one, Row w r) (h2 : ∀ r ∈ other, Row w r)
    (t1 : ∀ r ∈ one, ∀ i x : Nat, r[i]? = some x → x ≠ 45 → i ∈ ps) (t2 : ∀ r ∈ other, ∀ i x : Nat, r[i]? = some x → x ≠ 45 → i ∈ ps)
    (q : ∀ d, ((d = .none ∧ ∀ l, Ltr w l → ((∃ r ∈ one, Hold r l) ↔ ∃ r ∈ other, Hold r l)) ∨ ∃ l, d = tx l ∧ Ltr w l ∧ (((∃ r ∈ one, Hold r l) ∧ ¬ ∃ r ∈ other, Hold r l) ∨ ((∃ r ∈ other, Hold r l) ∧ ¬ ∃ r ∈ one, Hold r l))) → K (.fr false d)) : RS X (runF Γ n heapParted [.list (one.map tx), .list (other.map tx)]) K := by
  obtain ⟨Γ1, n1, hb1, hl1, e1⟩ := hmi
  refine rs_run ?_
  simp [heapParted, startE, e_call e1]
  refine heapMissing_ok (Γ := Γ1) hb1 hl1 hw hps one other h1 h2 t1 t2 fun d hd => ?_
  rcases hd with ⟨rfl, hd⟩ | ⟨l, rfl, hl, ha, hb⟩
  · simp [e_call e1]
    refine heapMissing_ok (Γ := Γ1) hb1 hl1 hw hps other one h2 h1 t2 t1 fun d hd' => ?_
    rcases hd' with ⟨rfl, hd'⟩ | ⟨l, rfl, hl, ha, hb⟩
    · simp
      exact q _ (.inl ⟨rfl, fun l hl => ⟨hd l hl, hd' l hl⟩⟩)
    · simp
      exact q _ (.inr ⟨l, rfl, hl, .inr ⟨ha, hb⟩⟩)
  · simp
    exact q _ (.inr ⟨l, rfl, hl, .inl ⟨ha, hb⟩⟩)
def lawLetter : MF := ⟨3, (.cons (.ife (.bop false (.cons (.not_ (.isi (.v 0) "str")) (.cons (.cmp .NotEq (.bi "len" (.cons (.v 0) .nil)) (.v 1)) .nil))) (.cons (.ret (.kb false)) .nil) .nil) (.cons (.ret (.cmp .Eq (.lc (.n 2) (.e (.v 0)) (.so (.cmp .NotIn (.v 2) (.tup (.cons (.ks "0") (.cons (.ks "1") .nil))))) (.v 2)) (.lst .nil))) .nil))⟩
theorem lawLetter_ok {Γ : FT} {n : Nat} {X : Str → Prop} {K : Rv → Prop} {w : Nat} (r : Tx) (hr : Ltr w r) (hw : w ≤ 1000) (q : K (.fr false (.bool true))) : RS X (runF Γ n lawLetter [tx r, .int w]) K := by
  have hd : r.length ≤ sizeLine := sz _ (by have := hr.1; omega)
  refine rs_run ?_
  simp [lawLetter, startE, len_tx hd, hr.1]
  refine rs_lc (fun i m L => m = false ∧ L = []) ⟨rfl, rfl⟩ (fun i d m L hd' h => ?_) (fun m L h => ?_)
  · obtain ⟨rfl, rfl⟩ := h
    obtain ⟨hi, rfl⟩ := map_at hd'
    have hb := hr.2 _ (List.getElem_mem hi)
    have it : inO (tx [r[i]]) (.tuple [tx [48], tx [49]]) = some true := by
      rw [in_two]
      rcases hb with h | h <;> simp [h]
    simp [lcT, it, sz 2 (by decide)]
  · obtain ⟨rfl, rfl⟩ := h
    rw [eq_nil (l := []) (by simp)]
    simp [hr.1]
    exact ⟨sz _ (by omega), q⟩
end M
end En
set_option Elab.async false
set_option linter.all false
set_option maxRecDepth 100000
set_option maxHeartbeats 4000000
namespace En
open PySem L2

/-- no text -/
abbrev NoTx (d : D) : Prop := semIsi d "str" = some false
theorem in_sgs (c : Nat) (S : List Nat) : inO (tx [c]) (.list (S.map fun c => tx [c])) = some (decide (c ∈ S)) := by
  have := in_txs [c] (S.map fun c => [c])
  rw [List.map_map] at this
  have e : (tx ∘ fun c => [c]) = fun c : Nat => tx [c] := rfl
  rw [e] at this
  rw [this]
  simp
theorem in_sgt (c : Nat) (l : Tx) : inO (tx [c]) (tx l) = some (decide (c ∈ l)) := by
  show some (decide (c ∈ (⟨l.toArray⟩ : Str).cps.toList)) = _
  simp
theorem flat_sgs {l : Tx} (h : Sm l) : ∀ d ∈ l.map (fun c => tx [c]), Flat d := fun d hd => by
  obtain ⟨c, hc, rfl⟩ := List.mem_map.mp hd
  exact flat_tx fun x hx => by rw [List.mem_singleton.mp hx]; exact h c hc
namespace M
def due : MF := ⟨4, (.cons (.ife (.bop false (.cons (.not_ (.isi (.v 0) "str")) (.cons (.cmp .NotEq (.bi "len" (.cons (.v 0) .nil)) (.v 1)) .nil))) (.cons (.ret (.kb false)) .nil) .nil) (.cons (.ret (.cmp .Eq (.lc (.n 3) (.e (.v 0)) (.so (.cmp .NotIn (.v 3) (.v 2))) (.v 3)) (.lst .nil))) .nil))⟩
theorem due_ok {Γ : FT} {n : Nat} {X : Str → Prop} {K : Rv → Prop} (l : Tx) (w : Nat) (S : List Nat) (hs : Sm l) (hl : l.length ≤ 1000) (q : K (.fr false (.bool (decide (l.length = w ∧ ∀ c ∈ l, c ∈ S))))) : RS X (runF Γ n due [tx l, .int (w : Int), .list (S.map fun c => tx [c])]) K := by
  refine rs_run ?_
  simp [due, startE, len_tx (l := l) (sz _ (by omega))]
  refine ⟨fun h => ?_, fun h => ?_⟩
  · have : ¬(l.length = w ∧ ∀ c ∈ l, c ∈ S) := fun z => h (by omega)
    rw [decide_eq_false this] at q
    exact q
  · refine rs_lc (fun i m L => m = false ∧ L = ((l.take i).filter fun c => decide (c ∉ S)).map fun c => tx [c]) ⟨rfl, rfl⟩ (fun i d m L hd' h' => ?_) (fun m L h' => ?_)
    · obtain ⟨rfl, rfl⟩ := h'
      obtain ⟨hi, rfl⟩ := map_at hd'
      have g := take_get (List.getElem?_eq_getElem hi)
      have c1 := in_sgs l[i] S
      rw [g]
      generalize l[i] = c at *
      generalize l.take i = t at *
      simp [lcT, c1]
      by_cases hm : c ∈ S
      · simp [hm]
      · simp [hm]
    · obtain ⟨rfl, rfl⟩ := h'
      rw [List.length_map, List.take_of_length_le (Nat.le_refl _)]
      refine ⟨sz _ (by omega), ?_⟩
      rw [eq_nil (flat_sgs (l := l.filter fun c => decide (c ∉ S)) fun c hc => hs c (List.mem_filter.mp hc).1)]
      have e : decide (List.map (fun c => tx [c]) (l.filter fun c => decide (c ∉ S)) = []) = decide (l.length = w ∧ ∀ c ∈ l, c ∈ S) := by
        rw [Bool.eq_iff_iff, decide_eq_true_eq, decide_eq_true_eq, List.map_eq_nil_iff, List.filter_eq_nil_iff]
        constructor
        · exact fun z => ⟨by omega, fun c hc => by simpa using z c hc⟩
        · exact fun z c hc => by simpa using z.2 c hc
      rw [e]
      simp
      simpa using q
theorem due_no {Γ : FT} {n : Nat} {X : Str → Prop} {K : Rv → Prop} (d : D) (w : Nat) (L : D) (hd : NoTx d) (q : K (.fr false (.bool false))) : RS X (runF Γ n due [d, .int (w : Int), L]) K := by
  refine rs_run ?_
  simp [due, startE, hd]
  exact q
def isRowP : MF := ⟨3, (.cons (.ife (.bop false (.cons (.not_ (.isi (.v 0) "str")) (.cons (.cmp .NotEq (.bi "len" (.cons (.v 0) .nil)) (.v 1)) .nil))) (.cons (.ret (.kb false)) .nil) .nil) (.cons (.for_ (.n 2) (.e (.v 0)) (.cons (.ife (.cmp .NotIn (.v 2) (.ks "01-")) (.cons (.ret (.kb false)) .nil) .nil) .nil)) (.cons (.ret (.kb true)) .nil)))⟩
theorem isRowP_ok {Γ : FT} {n : Nat} {X : Str → Prop} {K : Rv → Prop} (l : Tx) (w : Nat) (hl : l.length ≤ 1000) (q : K (.fr false (.bool (decide (l.length = w ∧ ∀ c ∈ l, c ∈ [48, 49, 45]))))) : RS X (runF Γ n isRowP [tx l, .int (w : Int)]) K := by
  refine rs_run ?_
  simp [isRowP, startE, len_tx (l := l) (sz _ (by omega))]
  refine ⟨fun h => ?_, fun h => ?_⟩
  · have : ¬(l.length = w ∧ ∀ c ∈ l, c ∈ [48, 49, 45]) := fun z => h (by omega)
    rw [decide_eq_false this] at q
    exact q
  · obtain ⟨I, hI⟩ : ∃ I : Nat → List Sl → Prop, ∀ i e, I i e = ∃ (s : Sl), e = [.fr false (tx l), .fr false (.int (w : Int)), s] ∧ ∀ c ∈ l.take i, c ∈ [48, 49, 45] := ⟨_, fun _ _ => rfl⟩
    refine fs_for I ?_ (fun i d e hd h' => ?_) (fun e h' => ?_)
    · rw [hI]
      exact ⟨_, rfl, by simp⟩
    · rw [hI] at h'
      obtain ⟨s, rfl, hall⟩ := h'
      obtain ⟨hi, rfl⟩ := map_at hd
      have g := take_get (List.getElem?_eq_getElem hi)
      have hm := List.getElem_mem hi
      have c1 := in_sgt l[i] [48, 49, 45]
      generalize l[i] = c at *
      generalize l.take i = t at *
      by_cases hc : c ∈ [48, 49, 45]
      · have d1 := decide_eq_true hc
        rw [d1] at c1
        simp [c1]
        rw [hI, g]
        refine ⟨_, rfl, fun x hx => ?_⟩
        rcases List.mem_append.mp hx with hx | hx
        · exact hall x hx
        · rw [List.mem_singleton.mp hx]; exact hc
      · have d1 := decide_eq_false hc
        rw [d1] at c1
        have : ¬(l.length = w ∧ ∀ c ∈ l, c ∈ [48, 49, 45]) := fun z => hc (z.2 c hm)
        rw [decide_eq_false this] at q
        simp [c1]
        exact q
    · rw [hI] at h'
      obtain ⟨s, rfl, hall⟩ := h'
      have : l.length = w ∧ ∀ c ∈ l, c ∈ [48, 49, 45] := by
        rw [List.length_map, List.take_of_length_le (Nat.le_refl _)] at hall
        exact ⟨by omega, hall⟩
      rw [decide_eq_true this] at q
      exact q
theorem isRowP_no {Γ : FT} {n : Nat} {X : Str → Prop} {K : Rv → Prop} (d : D) (w : Nat) (hd : NoTx d) (q : K (.fr false (.bool false))) : RS X (runF Γ n isRowP [d, .int (w : Int)]) K := by
  refine rs_run ?_
  simp [isRowP, startE, hd]
  exact q
def isLetterP : MF := ⟨2, (.cons (.ret (.bop true (.cons (.call "is_row" (.cons (.v 0) (.cons (.v 1) .nil))) (.cons (.cmp .NotIn (.ks "-") (.v 0)) .nil)))) .nil)⟩
def IsRowPAt (Γ : FT) : Prop := ∃ Γ' n, Γ "is_row" = some (2, fun ds => runF Γ' n isRowP ds)
theorem isLetterP_ok {Γ : FT} {n : Nat} {X : Str → Prop} {K : Rv → Prop} (hs : IsRowPAt Γ) (l : Tx) (w : Nat) (hl : l.length ≤ 1000) (q : K (.fr false (.bool (decide (l.length = w ∧ ∀ c ∈ l, c ∈ [48, 49]))))) : RS X (runF Γ n isLetterP [tx l, .int (w : Int)]) K := by
  obtain ⟨Γ', n', e⟩ := hs
  refine rs_run ?_
  simp [isLetterP, startE, e_call e, in_sgt, -rs_bopA, -rs_bopO]
  refine isRowP_ok l w hl ?_
  simp
  have : (decide (l.length = w) && decide (∀ c ∈ l, c = 48 ∨ c = 49 ∨ c = 45) && !decide (45 ∈ l)) = decide (l.length = w ∧ ∀ c ∈ l, c ∈ [48, 49]) := by
    rw [Bool.eq_iff_iff]
    simp
    constructor
    · rintro ⟨⟨h1, h2⟩, h3⟩
      exact ⟨h1, fun c hc => by rcases h2 c hc with h | h | h; exact .inl h; exact .inr h; exact absurd (h ▸ hc) h3⟩
    · rintro ⟨h1, h2⟩
      exact ⟨⟨h1, fun c hc => by rcases h2 c hc with h | h; exact .inl h; exact .inr (.inl h)⟩, fun h => by rcases h2 _ h with h | h <;> cases h⟩
  rw [this]
  exact q
theorem isLetterP_no {Γ : FT} {n : Nat} {X : Str → Prop} {K : Rv → Prop} (hs : IsRowPAt Γ) (d : D) (w : Nat) (hd : NoTx d) (q : K (.fr false (.bool false))) : RS X (runF Γ n isLetterP [d, .int (w : Int)]) K := by
  obtain ⟨Γ', n', e⟩ := hs
  refine rs_run ?_
  simp [isLetterP, startE, e_call e, -rs_bopA, -rs_bopO]
  refine isRowP_no d w hd ?_
  simp
  exact q
def signBy : MF := ⟨2, (.cons (.set 1 (.ks " !\"#$&'()*+,-./0123456789:;<=>?@ABCDEFGHIJKLMNOPQRSTUVWXYZ[\\]^_`") false) (.cons (.set 1 (.bin .Add (.v 1) (.ks "abcdefghijklmnopqrstuvwxyz{|}~\n\t")) false) (.cons (.ret (.ix (.v 1) (.bin .Mod (.v 0) (.bi "len" (.cons (.v 1) .nil))))) .nil)))⟩
theorem signBy_ok {Γ : FT} {n : Nat} {X : Str → Prop} {K : Rv → Prop} (c : Int) (q : ∀ x : Nat, x < 1114112 → K (.fr false (tx [x]))) : RS X (runF Γ n signBy [.int c]) K := by
  refine rs_run ?_
  obtain ⟨A, hA, hA1, hA2, hA3⟩ : ∃ A : Tx, (PyData.str (Str.ofString " !\"#$&'()*+,-./0123456789:;<=>?@ABCDEFGHIJKLMNOPQRSTUVWXYZ[\\]^_`") : D) = tx A ∧ A.length ≤ 100 ∧ 1 ≤ A.length ∧ Sm A := ⟨_, str_tx _, by decide, by decide, by unfold Sm; decide⟩
  obtain ⟨B, hB, hB1, hB3⟩ : ∃ B : Tx, (PyData.str (Str.ofString "abcdefghijklmnopqrstuvwxyz{|}~\n\t") : D) = tx B ∧ B.length ≤ 100 ∧ Sm B := ⟨_, str_tx _, by decide, by unfold Sm; decide⟩
  have hl := len_tx (l := A ++ B) (sz _ (by simp; omega))
  simp [signBy, startE, hA, hB, add_tx (a := A) (b := B) (sz _ (by omega)), hl]
  have p0 : (0 : Int) < (A.length : Int) + (B.length : Int) := by omega
  rw [En.mod_int p0]
  obtain ⟨k, hk⟩ := Int.eq_ofNat_of_zero_le (Int.emod_nonneg c (show (A.length : Int) + (B.length : Int) ≠ 0 by omega))
  have hk2 := Int.emod_lt_of_pos c p0
  rw [hk] at hk2 ⊢
  have hk3 : k < (A ++ B).length := by rw [List.length_append]; omega
  have ix := ix_tx (l := A ++ B) (sz _ (by simp; omega)) (List.getElem?_eq_getElem hk3)
  simp [ix]
  refine q _ ?_
  have hm := List.getElem_mem hk3
  generalize (A ++ B)[k] = x at *
  rcases List.mem_append.mp hm with h | h
  · exact hA3 x h
  · exact hB3 x h
def otherKind : MF := ⟨3, (.cons (.set 2 (.lst (.cons .kn (.cons (.kb true) (.cons (.kb false) (.cons (.bin .Mod (.v 1) (.bin .Pow (.ki 10) (.ki 9))) (.cons (.bin .Sub (.ki 0) (.bin .Mod (.v 1) (.ki 3))) (.cons (.bi "list" (.cons (.v 0) .nil)) (.cons (.bi "tuple" (.cons (.v 0) .nil)) (.cons (.lst (.cons (.v 0) .nil)) (.cons (.tup (.cons (.v 0) (.cons (.v 0) .nil))) .nil)))))))))) false) (.cons (.ret (.ix (.v 2) (.bin .Mod (.v 1) (.bi "len" (.cons (.v 2) .nil))))) .nil))⟩
theorem otherKind_ok {Γ : FT} {n : Nat} {X : Str → Prop} {K : Rv → Prop} (r : Tx) (c : Int) (hr : r.length ≤ 1000) (q : ∀ (m : Bool) (d : D), NoTx d → K (.fr m d)) : RS X (runF Γ n otherKind [tx r, .int c]) K := by
  refine rs_run ?_
  simp [otherKind, startE]
  have pw : semBin .Pow (.int 10) (.int 9) = some (false, .int 1000000000) := by
    show (if (decide ((0 : Int) ≤ 9) && decide ((9 : Int) ≤ 1000000) && decide ((10 : Int).natAbs < 2 ^ 64)) = true then some (false, PyData.int (10 ^ (9 : Int).toNat)) else none) = _
    rw [if_pos (by decide)]
    rfl
  have f1 : En.fits (⟨r.toArray⟩ : Str).cps.toList.length = true := decide_eq_true (sz _ (by simpa using (show r.length ≤ 16777216 by omega)))
  have e1 : semBi "list" [tx r] = some (true, .list (r.map fun c => tx [c])) := by
    have : semBi "list" [tx r] = s_list [tx r] := by unfold semBi; rw [if_neg (by decide), if_pos rfl]
    rw [this]
    show (if En.fits (⟨r.toArray⟩ : Str).cps.toList.length = true then some (true, PyData.list ((⟨r.toArray⟩ : Str).cps.toList.map fun c => .str ⟨#[c]⟩)) else none) = _
    rw [if_pos f1]
    simp [tx]
  have e2 : semBi "tuple" [tx r] = some (false, .tuple (r.map fun c => tx [c])) := by
    have : semBi "tuple" [tx r] = s_tuple [tx r] := by unfold semBi; rw [if_neg (by decide), if_neg (by decide), if_pos rfl]
    rw [this]
    show (if En.fits (⟨r.toArray⟩ : Str).cps.toList.length = true then some (false, PyData.tuple ((⟨r.toArray⟩ : Str).cps.toList.map fun c => .str ⟨#[c]⟩)) else none) = _
    rw [if_pos f1]
    simp [tx]
  obtain ⟨k, hk⟩ := Int.eq_ofNat_of_zero_le (Int.emod_nonneg c (show (9 : Int) ≠ 0 by decide))
  have hk2 := Int.emod_lt_of_pos c (show (0 : Int) < 9 by decide)
  simp [pw, En.mod_int, e1, e2, sz]
  rw [hk] at hk2 ⊢
  obtain ⟨L, hL, hl, hn⟩ : ∃ L : List D, L = [PyData.none, PyData.bool true, PyData.bool false, .int (c % 1000000000), .int (-(c % 3)), .list (r.map fun c => tx [c]), .tuple (r.map fun c => tx [c]), PyData.list [tx r], PyData.tuple [tx r, tx r]] ∧ L.length = 9 ∧ ∀ d ∈ L, NoTx d := ⟨_, rfl, rfl, fun d hd => by
    simp at hd
    rcases hd with rfl | rfl | rfl | rfl | rfl | rfl | rfl | rfl | rfl <;> rfl⟩
  have hk3 : k < L.length := by omega
  have ix := ix_list (List.getElem?_eq_getElem hk3)
  have hm := hn _ (List.getElem_mem hk3)
  generalize L[k] = d at *
  rw [hL] at ix
  simp [ix]
  exact q _ _ hm
end M
end En
set_option Elab.async false
set_option linter.all false
set_option maxRecDepth 100000
set_option maxHeartbeats 4000000
namespace En
open PySem L2

/-- the ways, longer ones first -/
structure Srt (ws us : List Wy) : Prop where
  perm : us.Perm ws
  le : us.Pairwise fun a b => b.1.length ≤ a.1.length
def wkey (v : Wy) : Int × Wy := (-(v.1.length : Int), v)
def srtW (ws : List Wy) : List Wy := (srtK (ws.map wkey)).map (·.2)
theorem srtW_ok (ws : List Wy) : Srt ws (srtW ws) := by
  obtain ⟨h1, h2⟩ := srtK_ok (ws.map wkey)
  refine ⟨?_, ?_⟩
  · have := h2.perm.map (·.2)
    rw [List.map_map] at this
    have e : ws.map ((fun x : Int × Wy => x.2) ∘ wkey) = ws := by
      show ws.map (fun v => v) = ws
      simp
    rw [e] at this
    exact this
  · refine List.pairwise_map.mpr (List.Pairwise.imp_of_mem (fun {a b} ha hb h => ?_) h1)
    obtain ⟨v, _, rfl⟩ := List.mem_map.mp (h2.perm.mem_iff.mp ha)
    obtain ⟨u, _, rfl⟩ := List.mem_map.mp (h2.perm.mem_iff.mp hb)
    have := of_decide_eq_false h
    simp only [wkey] at this ⊢
    omega
theorem srtW_zip (ws : List Wy) : (srtK ((ws.map fun v => -(v.1.length : Int)).zip (ws.map wy))).map (·.2) = (srtW ws).map wy := by
  have e : (ws.map fun v => -(v.1.length : Int)).zip (ws.map wy) = (ws.map wkey).map fun q => (q.1, wy q.2) := by
    rw [List.zip_map', List.map_map]
    rfl
  rw [e, srtK_map, List.map_map]
  unfold srtW
  rw [List.map_map]
  rfl
theorem keysR_map {g : List D → R Rv} {f : Wy → Int} : ∀ {ws : List Wy}, (∀ v ∈ ws, g [wy v] = .ok (.fr false (.int (f v)))) → keysR g (ws.map wy) = .ok (ws.map f)
  | [], _ => rfl
  | v :: ws, h => by
    show (keyR (g [wy v])).bind _ = _
    rw [h v List.mem_cons_self, keysR_map fun u hu => h u (List.mem_cons_of_mem _ hu)]
    rfl
/-- a part with its door -/
def shw (p : Tx × D) : D := .tuple [tx p.1, p.2]
theorem imm_door {d : D} (h : DoorF d) : imm d = true := by
  rcases h with rfl | ⟨x, _, rfl⟩ <;> simp
theorem imms_shw {l : List (Tx × D)} (h : ∀ p ∈ l, DoorF p.2) : imms (l.map shw) = true := by
  induction l with
  | nil => simp
  | cons a l ih => simp [shw, imm_door (h a List.mem_cons_self), ih fun p hp => h p (List.mem_cons_of_mem _ hp)]
structure WSh (w mn : Nat) (ws : List Wy) (fd : List (Tx × D)) : Prop where
  pcs : Pcs w (List.range mn) (fun _ => True) (fd.map (·.1))
  door : ∀ f ∈ fd, DoorF f.2
  num : ∀ f ∈ fd, ∀ l, Ltr w l → Hold f.1 l → Best ws l f.2
namespace M
def wayShort : MF := ⟨1, (.cons (.ret (.bin .Sub (.ki 0) (.bi "len" (.cons (.ix (.v 0) (.ki 0)) .nil)))) .nil)⟩
theorem wayShort_ok {Γ : FT} {n : Nat} (v : Wy) (h : v.1.length ≤ 1000) : runF Γ n wayShort [wy v] = .ok (.fr false (.int (-(v.1.length : Int)))) := by
  have main : RS (fun _ => False) (runF Γ n wayShort [wy v]) fun r => r = .fr false (.int (-(v.1.length : Int))) := by
    refine rs_run ?_
    simp [wayShort, startE, wy0, len_tx (l := v.1) (sz _ (by omega))]
  obtain ⟨a, e, rfl⟩ := rs_eq main
  exact e
def WayShortAt (Γ : FT) : Prop := ∃ Γ' n, Γ "way_short" = some (1, fun ds => runF Γ' n wayShort ds)
def wayRows : MF := ⟨10, (.cons (.set 2 (.lst .nil) true) (.cons (.set 3 (.lst (.cons (.bin .Mult (.ks "-") (.v 1)) .nil)) false) (.cons (.for_ (.t [4, 5]) (.e (.srk (.v 0) "way_short")) (.cons (.set 6 (.bin .Add (.v 4) (.bin .Mult (.ks "-") (.bin .Sub (.v 1) (.bi "len" (.cons (.v 4) .nil))))) false) (.cons (.set 7 (.lst .nil) true) (.cons (.for_ (.n 8) (.e (.v 3)) (.cons (.set 9 (.call "row_meet" (.cons (.v 8) (.cons (.v 6) .nil))) false) (.cons (.ife (.cmp .IsNot (.v 9) .kn) (.cons (.app 2 (.tup (.cons (.v 9) (.cons (.v 5) .nil)))) .nil) .nil) (.cons (.ext 7 (.call "row_less" (.cons (.v 8) (.cons (.v 6) .nil)))) .nil)))) (.frz 7 (.cons (.set 3 (.v 7) false) .nil)))))) (.frz 2 (.cons (.ret (.bin .Add (.v 2) (.lc (.n 8) (.e (.v 3)) .no (.tup (.cons (.v 8) (.cons .kn .nil)))))) .nil)))))⟩
theorem wayRows_ok {Γ : FT} {n : Nat} {X : Str → Prop} {K : Rv → Prop} (hsh : WayShortAt Γ) (hm : MeetAt Γ) (hl : LessAt Γ) {w : Nat} (hw : w ≤ 900) (ws : List Wy) (hws : WysOk 5 ws) (h5 : ∀ v ∈ ws, v.1.length ≤ w) (mn : Nat) (mn5 : mn ≤ 5) (hvm : ∀ v ∈ ws, v.1.length ≤ mn) (hlen : ws.length ≤ 900)
    (q : ∀ fd : List (Tx × D), WSh w mn ws fd → K (.ow false (.list (fd.map shw)))) : RS X (runF Γ n wayRows [.list (ws.map wy), .int (w : Int)]) K := by
  obtain ⟨Γ0, n0, e0⟩ := hsh
  obtain ⟨Γ1, n1, e1⟩ := hm
  obtain ⟨Γ2, n2, hm2, e2⟩ := hl
  have hk : keysR (fun ds => runF Γ0 n0 wayShort ds) (ws.map wy) = .ok (ws.map fun v => -(v.1.length : Int)) := keysR_map fun v hv => wayShort_ok v (by have := h5 v hv; omega)
  obtain ⟨us, hus, S⟩ : ∃ us, us = srtW ws ∧ Srt ws us := ⟨_, rfl, srtW_ok ws⟩
  have hz := srtW_zip ws
  rw [← hus] at hz
  have hov : ∀ v ∈ us, v ∈ ws ∧ Ltr v.1.length v.1 ∧ v.1.length ≤ mn ∧ Sm v.2 ∧ v.1.length ≤ w := fun v h => have h' := S.perm.mem_iff.mp h; ⟨h', (hws.2 v h').1, hvm v h', (hws.2 v h').2.2, h5 v h'⟩
  have p5 : 2 ^ (List.range mn).length ≤ 32 := by rw [List.length_range]; exact (Nat.pow_le_pow_right (by decide) mn5 : 2 ^ mn ≤ 2 ^ 5)
  have drow : Row w (List.replicate w 45) := dash_row w
  refine rs_run ?_
  simp [wayRows, startE, sz 1 (by decide), dashes (n := w) (by omega), e_srk e0, hk, hz, -List.map_map]
  obtain ⟨I, hI⟩ : ∃ I : Nat → List Sl → Prop, ∀ i e, I i e = ∃ (s4 s5 s6 s7 s8 s9 : Sl) (fd : List (Tx × D)) (rest : List Tx) (L : D), e = [.fr true (.list (ws.map wy)), .fr false (.int (w : Int)), .ow false L, .fr false (.list (rest.map tx)), s4, s5, s6, s7, s8, s9] ∧ L = .list (fd.map shw) ∧
      Pcs w (List.range mn) (fun l => ∃ r ∈ us.take i, Hold (prow w r.1) l) (fd.map (·.1)) ∧ (∀ f ∈ fd, DoorF f.2 ∧ ∀ l, Ltr w l → Hold f.1 l → Best ws l f.2) ∧ Pcs w (List.range mn) (fun l => ∀ r ∈ us.take i, ¬ Hold (prow w r.1) l) rest := ⟨_, fun _ _ => rfl⟩
  refine fs_for I ?_ (fun i d e hd h => ?_) (fun e h => ?_)
  · rw [hI]
    refine ⟨_, _, _, _, _, _, [], [List.replicate w 45], _, rfl, rfl, ⟨by simp, by simp, .nil, fun l _ => by simp⟩, by simp, ⟨fun r h => by rw [List.mem_singleton.mp h]; exact drow, fun r h i x e hx => ?_, List.pairwise_singleton _ _, fun l _ => by simp [hold_dash]⟩⟩
    rw [List.mem_singleton.mp h] at e
    exact absurd (List.eq_of_mem_replicate (List.mem_of_getElem? e)) hx
  · rw [hI] at h
    obtain ⟨s4, s5, s6, s7, s8, s9, fd, rest, L, rfl, rfl, F, hnum, R⟩ := h
    obtain ⟨hi, rfl⟩ := map_at hd
    have g := take_get (List.getElem?_eq_getElem hi)
    obtain ⟨hou, ho, hol, hos, how⟩ := hov _ (List.getElem_mem hi)
    have hbest : ∀ l, Ltr w l → (∀ r ∈ us.take i, ¬ Hold (prow w r.1) l) → Hold (prow w us[i].1) l → Best ws l (tx us[i].2) := fun l hl hn hh => by
      refine .inr ⟨us[i], hou, rfl, (prow_hold ho how hl).mp hh, fun u hu hp => ?_⟩
      obtain ⟨j, hj, rfl⟩ := List.getElem_of_mem (S.perm.mem_iff.mpr hu)
      by_cases hji : j < i
      · exfalso
        obtain ⟨_, hu1, _, _, hu2⟩ := hov _ (List.getElem_mem hj)
        exact hn us[j] (List.mem_iff_getElem.mpr ⟨j, by rw [List.length_take]; omega, by rw [List.getElem_take]⟩) ((prow_hold hu1 hu2 hl).mpr hp)
      · by_cases hji2 : i = j
        · subst hji2; exact Nat.le_refl _
        · exact List.pairwise_iff_getElem.mp S.le i j hi hj (by omega)
    generalize us[i] = u at *
    obtain ⟨o, dt⟩ := u
    have ho : Ltr o.length o := ho
    have hol : o.length ≤ mn := hol
    have how : o.length ≤ w := how
    have hos : Sm dt := hos
    have hru := prow_row ho how
    have htu : ∀ i x : Nat, (prow w o)[i]? = some x → x ≠ 45 → i ∈ List.range mn := fun i x e hx => List.mem_range.mpr (by have := prow_tell i x e hx; omega)
    have lo := len_tx (l := o) (sz _ (by omega))
    have eo : ((w : Int) - (o.length : Int)) = ((w - o.length : Nat) : Int) := by omega
    have ado : semBin .Add (tx o) (tx (List.replicate (w - o.length) 45)) = some (false, tx (prow w o)) := add_tx (sz _ (by rw [List.length_replicate]; omega))
    have fo := Nat.le_trans R.few p5
    simp [wy, lo, eo, dashes (n := w - o.length) (by omega), ado, sz 0 (by decide)]
    have hbest : ∀ l, Ltr w l → (∀ r ∈ us.take i, ¬ Hold (prow w r.1) l) → Hold (prow w o) l → Best ws l (tx dt) := hbest
    obtain ⟨J, hJ⟩ : ∃ J : Nat → List Sl → Prop, ∀ j e, J j e = ∃ (s8 s9 : Sl) (fd : List (Tx × D)) (lo : List Tx) (L L2 : D), e = [.fr true (.list (ws.map wy)), .fr false (.int (w : Int)), .ow false L, .fr false (.list (rest.map tx)), .fr true (tx o), .fr true (tx dt), .fr false (tx (prow w o)), .ow false L2, s8, s9] ∧ L = .list (fd.map shw) ∧ L2 = .list (lo.map tx) ∧
        Pcs w (List.range mn) (fun l => (∃ r ∈ us.take i, Hold (prow w r.1) l) ∨ ∃ p ∈ rest.take j, Hold p l ∧ Hold (prow w o) l) (fd.map (·.1)) ∧ (∀ f ∈ fd, DoorF f.2 ∧ ∀ l, Ltr w l → Hold f.1 l → Best ws l f.2) ∧
        Pcs w (List.range mn) (fun l => ∃ r ∈ rest.take j, Hold r l ∧ ¬ Hold (prow w o) l) lo ∧ ∀ o ∈ lo, ∃ r ∈ rest.take j, Hold r o := ⟨_, fun _ _ => rfl⟩
    refine fs_for J ?_ (fun j d e' hd h => ?_) (fun e' h => ?_)
    · rw [hJ]
      exact ⟨_, _, fd, [], _, _, rfl, rfl, rfl, F.iff fun l _ => by simp, hnum, pcs_nil (row := prow w o), by simp⟩
    · rw [hJ] at h
      obtain ⟨s8, s9, fd, lo, L, L2, rfl, rfl, rfl, F, hnum, O, hin⟩ := h
      obtain ⟨hj, rfl⟩ := map_at hd
      have gj := take_get (List.getElem?_eq_getElem hj)
      have hmem := List.getElem_mem hj
      have hap : ∀ r ∈ rest.take j, Cl rest[j] r := fun r hr' => by
        obtain ⟨k, hk, rfl⟩ := List.getElem_of_mem hr'
        rw [List.length_take] at hk
        rw [List.getElem_take]
        exact List.pairwise_iff_getElem.mp R.apart k j (by omega) hj (by omega)
      have hp := R.row _ hmem
      have htp := R.tell _ hmem
      have hset := fun (l : Tx) (hl : Ltr w l) (hh : Hold rest[j] l) => (R.cov l hl).mp ⟨_, hmem, hh⟩
      generalize rest[j] = p at *
      have fl := Nat.le_trans O.few p5
      have ff := Nat.le_trans F.few p5
      rw [List.length_map] at ff
      have few : fd.length < sizeLine := slt (by omega)
      have fin : ∀ (fd' : List (Tx × D)) (fs : List Tx) (z : Int) (s9 : Sl), M.Apart w p (prow w o) fs z → Pcs w (List.range mn) (fun l => (∃ r ∈ us.take i, Hold (prow w r.1) l) ∨ ∃ p ∈ rest.take (j + 1), Hold p l ∧ Hold (prow w o) l) (fd'.map (·.1)) → (∀ f ∈ fd', DoorF f.2 ∧ ∀ l, Ltr w l → Hold f.1 l → Best ws l f.2) →
          lo.length + fs.length ≤ sizeLine ∧ J (j + 1) [.fr true (.list (ws.map wy)), .fr false (.int (w : Int)), .ow false (.list (fd'.map shw)), .fr false (.list (rest.map tx)), .fr true (tx o), .fr true (tx dt), .fr false (tx (prow w o)), .ow false (.list (lo.map tx ++ fs.map tx)), .fr false (tx p), s9] := fun fd' fs z s9 A F' hnum' => by
        refine ⟨sz _ (by have := A.few; omega), ?_⟩
        rw [hJ]
        obtain ⟨a1, a2⟩ := pcs_step O hin hru htu (fun r hr' => R.row r (List.mem_of_mem_take hr')) hp htp hap A
        exact ⟨_, _, fd', lo ++ fs, _, _, rfl, rfl, by simp, F', hnum', by rw [gj]; exact a1, by rw [gj]; exact a2⟩
      simp [e_call e1, e_call e2]
      refine meetR_ok (Γ := Γ1) p (prow w o) (by have := hp.1; omega) (fun hc => ?_) (fun hc => ?_)
      · simp [e_call e1, e_call e2]
        have F' : Pcs w (List.range mn) (fun l => (∃ r ∈ us.take i, Hold (prow w r.1) l) ∨ ∃ p ∈ rest.take (j + 1), Hold p l ∧ Hold (prow w o) l) (fd.map (·.1)) := F.iff fun l hl => by
          rw [gj]
          constructor
          · rintro (h | ⟨a, ha, h⟩)
            · exact .inl h
            · exact .inr ⟨a, List.mem_append_left _ ha, h⟩
          · rintro (h | ⟨a, ha, h1, h2⟩)
            · exact .inl h
            · rcases List.mem_append.mp ha with ha | ha
              · exact .inr ⟨a, ha, h1, h2⟩
              · rw [List.mem_singleton.mp ha] at h1
                exact absurd h2 (cl_no hp hru hl hc h1)
        refine less_ok (Γ := Γ2) hm2 p (prow w o) hp hru (by omega) (fun _ fs A => ?_) (fun hnc fs A => absurd hc hnc)
        simp
        exact fin fd fs _ _ A F' hnum
      · simp [e_call e1, e_call e2, sz 2 (by decide), few]
        have F' : Pcs w (List.range mn) (fun l => (∃ r ∈ us.take i, Hold (prow w r.1) l) ∨ ∃ p ∈ rest.take (j + 1), Hold p l ∧ Hold (prow w o) l) ((fd ++ [(mt p (prow w o), tx dt)]).map (·.1)) := by
          rw [List.map_append]
          refine pcs_snoc F (mt_row hp hru) (fun k x e n => ?_) (fun l hl h => ?_) fun l hl => ?_
          · rcases mt_tell hp hru k x e n with ⟨y, e', n'⟩ | ⟨y, e', n'⟩
            · exact htp k y e' n'
            · exact htu k y e' n'
          · obtain ⟨h1, h2⟩ := (mt_iff hp hru hc).mp h
            rintro (⟨r, hr, h3⟩ | ⟨a, ha, h3, _⟩)
            · exact (hset l hl h1) r hr h3
            · exact cl_no hp (R.row a (List.mem_of_mem_take ha)) hl (hap a ha) h1 h3
          · show ((∃ r ∈ us.take i, Hold (prow w r.1) l) ∨ ∃ p ∈ rest.take (j + 1), Hold p l ∧ Hold (prow w o) l) ↔ ((∃ r ∈ us.take i, Hold (prow w r.1) l) ∨ ∃ p ∈ rest.take j, Hold p l ∧ Hold (prow w o) l) ∨ Hold (mt p (prow w o)) l
            rw [gj, mt_iff hp hru hc]
            constructor
            · rintro (h | ⟨a, ha, h1, h2⟩)
              · exact .inl (.inl h)
              · rcases List.mem_append.mp ha with ha | ha
                · exact .inl (.inr ⟨a, ha, h1, h2⟩)
                · rw [List.mem_singleton.mp ha] at h1
                  exact .inr ⟨h1, h2⟩
            · rintro ((h | ⟨a, ha, h1, h2⟩) | ⟨h1, h2⟩)
              · exact .inl h
              · exact .inr ⟨a, List.mem_append_left _ ha, h1, h2⟩
              · exact .inr ⟨p, List.mem_append_right _ (List.mem_singleton.mpr rfl), h1, h2⟩
        have hnum' : ∀ f ∈ fd ++ [(mt p (prow w o), tx dt)], DoorF f.2 ∧ ∀ l, Ltr w l → Hold f.1 l → Best ws l f.2 := fun f hf => by
          rcases List.mem_append.mp hf with hf | hf
          · exact hnum f hf
          · rw [List.mem_singleton.mp hf]
            refine ⟨.inr ⟨_, hos, rfl⟩, fun l hl hh => ?_⟩
            obtain ⟨h1, h2⟩ := (mt_iff hp hru hc).mp hh
            exact hbest l hl (hset l hl h1) h2
        have ea : fd.map shw ++ [PyData.tuple [tx (mt p (prow w o)), tx dt]] = (fd ++ [(mt p (prow w o), tx dt)]).map shw := by simp [shw]
        rw [ea]
        refine less_ok (Γ := Γ2) hm2 p (prow w o) hp hru (by omega) (fun hc' fs A => absurd hc' hc) (fun hnc fs A => ?_)
        simp [-List.map_append]
        exact fin _ fs _ _ A F' hnum'
    · rw [hJ] at h
      obtain ⟨s8, s9, fd, lo, L, L2, rfl, rfl, rfl, F, hnum, O, hin⟩ := h
      rw [List.length_map, List.take_of_length_le (Nat.le_refl _)] at F O
      simp
      rw [hI]
      refine ⟨_, _, _, _, _, _, fd, lo, _, rfl, rfl, F.iff fun l hl => ?_, hnum, O.iff fun l hl => ?_⟩
      · rw [g]
        constructor
        · rintro (⟨r, hr, h⟩ | ⟨p, hp, h1, h2⟩)
          · exact ⟨r, List.mem_append_left _ hr, h⟩
          · exact ⟨(o, dt), List.mem_append_right _ (List.mem_singleton.mpr rfl), h2⟩
        · rintro ⟨r, hr, h⟩
          by_cases hz : ∃ r ∈ us.take i, Hold (prow w r.1) l
          · exact .inl hz
          · have er : r = (o, dt) := by
              rcases List.mem_append.mp hr with h' | h'
              · exact absurd ⟨r, h', h⟩ hz
              · exact List.mem_singleton.mp h'
            rw [er] at h
            obtain ⟨p, hp, h1⟩ := (R.cov l hl).mpr fun r hr h => hz ⟨r, hr, h⟩
            exact .inr ⟨p, hp, h1, h⟩
      · rw [g]
        constructor
        · rintro ⟨r, hr', h1, h2⟩
          have z2 := (R.cov l hl).mp ⟨r, hr', h1⟩
          intro r' hr''
          rcases List.mem_append.mp hr'' with h | h
          · exact z2 r' h
          · rw [List.mem_singleton.mp h]; exact h2
        · intro z2
          obtain ⟨r, hr', h1⟩ := (R.cov l hl).mpr fun r' hr'' => z2 r' (List.mem_append_left _ hr'')
          exact ⟨r, hr', h1, z2 (o, dt) (List.mem_append_right _ (List.mem_singleton.mpr rfl))⟩
  · rw [hI] at h
    obtain ⟨s4, s5, s6, s7, s8, s9, fd, rest, L, rfl, rfl, F, hnum, R⟩ := h
    have e0 : us.take (us.map wy).length = us := List.take_of_length_le (by rw [List.length_map]; exact Nat.le_refl _)
    rw [e0] at F R
    have fo := Nat.le_trans R.few p5
    have ff := Nat.le_trans F.few p5
    rw [List.length_map] at ff
    simp
    refine rs_lc (fun i m L => m = false ∧ L = ((rest.map fun p => (p, (PyData.none : D))).take i).map shw) ⟨rfl, rfl⟩ (fun i d m L hd' h => ?_) (fun m L h => ?_)
    · obtain ⟨rfl, rfl⟩ := h
      obtain ⟨hi, rfl⟩ := map_at hd'
      simp [lcT, sz 2 (by decide)]
      rw [take_get (l := rest.map (shw ∘ fun p => (p, (PyData.none : D)))) (a := shw (rest[i], (PyData.none : D))) (by rw [List.getElem?_map, List.getElem?_eq_getElem hi]; rfl)]
      rfl
    · obtain ⟨rfl, rfl⟩ := h
      rw [List.length_map, List.take_of_length_le (by simp)]
      refine ⟨sz _ (by omega), ?_⟩
      have al := add_list (a := fd.map shw) (b := (rest.map fun p => (p, (PyData.none : D))).map shw) (sz _ (by simp; omega))
      rw [← List.map_append] at al
      dsimp only
      rw [al]
      simp [-List.map_append, -List.map_map]
      refine q _ ⟨?_, fun f hf => ?_, fun f hf l hl h => ?_⟩
      · rw [List.map_append, List.map_map]
        have em : rest.map ((fun x : Tx × D => x.1) ∘ fun p => (p, (PyData.none : D))) = rest := by
          show rest.map (fun p => p) = rest
          simp
        rw [em]
        refine pcs_join F R (fun l hl h1 h2 => ?_) fun l hl => ?_
        · obtain ⟨r, hr, h⟩ := h1
          exact h2 r hr h
        · refine ⟨fun _ => ?_, fun _ => trivial⟩
          by_cases hz : ∃ r ∈ us, Hold (prow w r.1) l
          · exact .inl hz
          · exact .inr fun r hr h' => hz ⟨r, hr, h'⟩
      · rcases List.mem_append.mp hf with hf | hf
        · exact (hnum f hf).1
        · obtain ⟨p, hp, rfl⟩ := List.mem_map.mp hf
          exact .inl rfl
      · rcases List.mem_append.mp hf with hf | hf
        · exact (hnum f hf).2 l hl h
        · obtain ⟨p, hp, rfl⟩ := List.mem_map.mp hf
          have hno := (R.cov l hl).mp ⟨p, hp, h⟩
          refine .inl ⟨rfl, fun v hv hpre => ?_⟩
          have hvu := S.perm.mem_iff.mpr hv
          obtain ⟨_, h1, _, _, h2⟩ := hov v hvu
          exact hno v hvu ((prow_hold h1 h2 hl).mpr hpre)
end M
end En
set_option Elab.async false
set_option linter.all false
set_option maxRecDepth 100000
set_option maxHeartbeats 4000000
namespace En
open PySem L2

@[simp] theorem shw0 (p : Tx × D) : semIx (shw p) (.int 0) = some (tx p.1) := ix_tup (i := 0) rfl
@[simp] theorem shw1 (p : Tx × D) : semIx (shw p) (.int 1) = some p.2 := ix_tup (i := 1) rfl
@[simp] theorem isi_tup_shw (p : Tx × D) : semIsi (shw p) "tuple" = some true := isi_tup_t _
@[simp] theorem len_shw (p : Tx × D) : s_len [shw p] = some (false, .int 2) := (rfl)
theorem eq_door {d : D} (h : DoorF d) : eqO d d = some true := by
  rcases h with rfl | ⟨x, _, rfl⟩
  · rfl
  · rw [eq_tx]; simp
theorem mk_door {d : D} (h : DoorF d) (m : Bool) : mk m false d = .fr false d := by
  rcases h with rfl | ⟨x, _, rfl⟩ <;> simp
theorem ans_door {d : D} (h : DoorF d) (b m : Bool) : ans b (.fr m d) = .ok (.fr false d) := by
  rcases h with rfl | ⟨x, _, rfl⟩ <;> simp
theorem isn_door {d : D} (h : DoorF d) : ∃ t, isO d .none = some (!t) ∧ (t = true → semIsi d "str" = some true) := by
  rcases h with rfl | ⟨x, _, rfl⟩
  · exact ⟨false, rfl, fun h => nomatch h⟩
  · exact ⟨true, rfl, fun _ => isi_str_tx _⟩
namespace M
def shareFitsW : MF := ⟨5, (.cons (.ife (.bop false (.cons (.not_ (.isi (.v 0) "tuple")) (.cons (.cmp .NotEq (.bi "len" (.cons (.v 0) .nil)) (.ki 2)) (.cons (.not_ (.call "_law_is_row" (.cons (.ix (.v 0) (.ki 0)) (.cons (.v 2) .nil)))) .nil)))) (.cons (.ret (.kb false)) .nil) .nil) (.cons (.ife (.bop true (.cons (.cmp .IsNot (.ix (.v 0) (.ki 1)) .kn) (.cons (.not_ (.isi (.ix (.v 0) (.ki 1)) "str")) .nil))) (.cons (.ret (.kb false)) .nil) .nil) (.cons (.for_ (.n 4) (.e (.call "_law_choices" (.cons (.v 3) .nil))) (.cons (.ife (.bop true (.cons (.call "_law_fits" (.cons (.sl (.ix (.v 0) (.ki 0)) .no (.so (.v 3))) (.cons (.v 4) .nil))) (.cons (.cmp .NotEq (.call "_law_door" (.cons (.v 1) (.cons (.v 4) .nil))) (.ix (.v 0) (.ki 1))) .nil))) (.cons (.ret (.kb false)) .nil) .nil) .nil)) (.cons (.ret (.kb true)) .nil))))⟩
theorem shareFitsW_ok {Γ : FT} {n : Nat} {X : Str → Prop} {K : Rv → Prop} (hr : IsRowAt Γ) (hc : ChoicesAt Γ) (hf : FitsAt Γ) (hdo : LawDoorAt Γ) {w : Nat} (hw : w ≤ 900) (many : Nat) (hm : many ≤ 8) (f : Tx × D) (ws : List Wy) (hfr : Row w f.1) (hd : DoorF f.2)
    (good : ∀ c, Ltr many c → ¬ Cl (f.1.take many) c → ∀ d, Best ws c d → d = f.2) (q : K (.fr false (.bool true))) : RS X (runF Γ n shareFitsW [shw f, .list (ws.map wy), .int (w : Int), .int (many : Int)]) K := by
  obtain ⟨Γ1, n1, e1⟩ := hr
  obtain ⟨Γ2, n2, e2⟩ := hc
  obtain ⟨Γ3, n3, e3⟩ := hf
  obtain ⟨Γ4, n4, e4⟩ := hdo
  have hl' := hfr.1
  obtain ⟨t, ht, hs⟩ := isn_door hd
  have mkd := mk_door hd
  have and' := ans_door hd
  have eqd := eq_door hd
  refine rs_run ?_
  refine fs_at 2 (fun e => e = [.fr (!imm (shw f)) (shw f), .fr true (.list (ws.map wy)), .fr false (.int (w : Int)), .fr false (.int (many : Int)), .no]) ?_ ?_
  · simp [shareFitsW, takeS, startE, e_call e1]
    refine isRow_ok (Γ := Γ1) _ hfr (by omega) ?_
    simp [mkd, ht]
    intro h
    simp [hs h]
  rintro _ rfl
  generalize (!imm (shw f)) = mf
  simp [shareFitsW, dropS, e_call e2]
  refine choices_ok (Γ := Γ2) many hm ?_
  simp
  obtain ⟨I, hI⟩ : ∃ I : Nat → List Sl → Prop, ∀ i e, I i e = ∃ (s : Sl), e = [.fr mf (shw f), .fr true (.list (ws.map wy)), .fr false (.int (w : Int)), .fr false (.int (many : Int)), s] := ⟨_, fun _ _ => rfl⟩
  refine fs_for I ?_ (fun i d e hx h => ?_) (fun e h => ?_)
  · rw [hI]
    exact ⟨_, rfl⟩
  · rw [hI] at h
    obtain ⟨s, rfl⟩ := h
    obtain ⟨hi, rfl⟩ := map_at hx
    have hcl := choices_ltr (List.getElem_mem hi)
    generalize (choicesL many)[i] = c at *
    have nx : ∀ s, I (i + 1) [.fr mf (shw f), .fr true (.list (ws.map wy)), .fr false (.int (w : Int)), .fr false (.int (many : Int)), s] := fun s => by
      rw [hI]
      exact ⟨_, rfl⟩
    simp [e_call e3, sp_to (l := f.1) (i := many) (by omega)]
    refine fits_ok (Γ := Γ3) _ _ fun t ht => ?_
    cases t with
    | false =>
      simp
      exact nx _
    | true =>
      simp [e_call e4]
      refine lawDoor_ok (Γ := Γ4) ws c (by rw [hcl.1]; omega) fun m d hB => ?_
      obtain rfl := good c hcl (ht.mp rfl) d hB
      simp [and', mkd, eqd]
      exact nx _
  · rw [hI] at h
    obtain ⟨s, rfl⟩ := h
    exact q
end M
end En
set_option Elab.async false
set_option linter.all false
set_option maxRecDepth 100000
set_option maxHeartbeats 4000000
namespace En
open PySem PySem.Spec PyProof.Rows L2

/-! ### refusals: what is raised, what is caught -/
section
variable {P : Program} {w : World} {K : PySem.W.Frag} {mg : Str → Option Value} {base : Heap}
def RzAt (nm : Str) (mg : Str → Option Value) (P : Program) (w : World) (K : PySem.W.Frag) : Prop := ∀ (X : Cx) (E : XK) (m : Str) (j : Nat) (p p2 p3 pos : Pos), X.prog = P → X.w = w → X.K = K → X.mg = mg → X.calm = true → Takes X (fun c d _ H => E c d H) → Gl X nm → PS X (.Raise (some (.Call (.Name nm p) [.Constant (.str m) j p2] [] p3)) none pos) (fun _ _ H => ∀ C, mg nm = some (.ref C) → E (.ref C) none H)
theorem rz_at {nm : Str} {D : Addr} {bmB : List Value} {B newId initId : String} (F : ExcBaseFacts B newId initId bmB) (xP : PySem.W.excIn K D bmB newId = true) (gP : mg nm = some (.ref D)) (kP : PySem.W.keepIn K (.ref D) = true) (bP : PySem.W.subIn K (.ref D) (.type "BaseException") = some true) (tP : PySem.W.typeIn K (.ref D) = some (.type "type")) (hd : (nm == ("__debug__" : Str)) = false) : RzAt nm mg P w K := by
  intro X E m j p p2 p3 pos e1 e2 e3 e4 hc tk hg
  subst e1 e2 e3 e4
  exact PS.imp (ps_raise hc tk (pmk_own F xP gP kP (raises_own bP tP) hg hd)) fun Dn σ H h => h D gP
theorem rz_mk {ex : Ex} (h1 : ∀ x, x ∈ ex.rz → RzAt x mg P w K) (h2 : ∀ T, T ∈ ex.cl → ∃ cT, mg T = some (.ref cT)) (h3 : ∀ x, x ∈ ex.xs → ∀ C, mg x = some (.ref C) → XFact ex mg P w K base x C) : RzOk ex mg P w K base :=
  ⟨fun X E x m j p p2 p3 pos e1 e2 e3 e4 hc tk hx hg => h1 x hx X E m j p p2 p3 pos e1 e2 e3 e4 hc tk hg, h2, h3⟩
/-- for each of some names -/
theorem all_nil {p : Str → Prop} : ∀ x, x ∈ ([] : List Str) → p x := fun x h => nomatch h
theorem all_cons {p : Str → Prop} {y : Str} {l : List Str} (h : p y) (r : ∀ x, x ∈ l → p x) : ∀ x, x ∈ y :: l → p x := fun x hx => by
  rcases List.mem_cons.mp hx with rfl | hx
  · exact h
  · exact r x hx
theorem xf_of {ex : Ex} {x : Str} {D : Addr} (hm : mg x = some (.ref D)) (F : XFact ex mg P w K base x D) : ∀ C, mg x = some (.ref C) → XFact ex mg P w K base x C := fun C h => by
  rw [hm] at h
  cases h
  exact F
/-- what an except clause catches -/
theorem cat_of {ex : Ex} {x T : Str} {D cT : Addr} (h : ∀ T' b, ex.cat x T' = some b → T' = T ∧ b = true) (hT : mg T = some (.ref cT)) (he : PySem.W.exmOne K (.ref D) (.ref cT) = some true) : ∀ T' b, ex.cat x T' = some b → ∀ c', mg T' = some (.ref c') → PySem.W.exmOne K (.ref D) (.ref c') = some b := fun T' b e c' hc => by
  obtain ⟨rfl, rfl⟩ := h T' b e
  rw [hT] at hc
  cases hc
  exact he
theorem val_in {ex : Ex} {x c : Str} {D D' : Addr} {b b' : Bool} (hm : mg c = some (.ref D')) (hk : PySem.W.kitOne K (.ref D) (.ref D') = some b) (e : b' = b) : ∃ (v : V) (cv : Value), (mg c = some cv ∨ (mg c = none ∧ bootBuiltins c = some cv)) ∧ RelV v cv ∧ (∀ u, RelV v u → u = cv) ∧ PySem.W.kitOne K (.ref D) cv = some b' := by
  subst e
  exact ⟨.ref D', .ref D', .inl hm, rfl, fun u r => r, hk⟩
theorem val_err {c : Str} {D : Addr} {b' : Bool} (hc : c = "ValueError") (hm : mg c = none) (hk : PySem.W.kitOne K (.ref D) (.type "ValueError") = some true) (e : b' = true) : ∃ (v : V) (cv : Value), (mg c = some cv ∨ (mg c = none ∧ bootBuiltins c = some cv)) ∧ RelV v cv ∧ (∀ u, RelV v u → u = cv) ∧ PySem.W.kitOne K (.ref D) cv = some b' := by
  subst e hc
  exact ⟨.ty "ValueError", .type "ValueError", .inr ⟨hm, by decide +kernel⟩, rfl, fun u r => r, hk⟩
end
/-! ### the run's laws -/
section
variable {α β : Type} {Γ : FT} {fuel : Nat} {env : List Sl}
def movR (o : Option Sl) (i j : Nat) (env : List Sl) : Fl := match o with
  | some (.ow m d) => if i < env.length ∧ i ≠ j then .next ((env.set i (.ow m d)).set j .no) else .bad
  | _ => .bad
@[simp] theorem movR_ow (m : Bool) (d : D) (i j : Nat) : movR (some (.ow m d)) i j env = if i < env.length ∧ i ≠ j then .next ((env.set i (.ow m d)).set j .no) else .bad := (rfl)
@[simp] theorem s_mov (i j : Nat) : evS Γ fuel (.mov i j) env = movR env[j]? i j env := by rw [evS]; rfl
@[simp] theorem s_try (b : TB) (tb : List (Str × List (Nat × Str))) (n : Nat) (sx : List XSt) : evS Γ fuel (.try_ b tb n sx) env = tryR tb n env (evT Γ b env) := by rw [evS]
def tryE (o : Option (List (Nat × Str))) (n : Nat) (env : List Sl) : Fl := match o with
  | some l => if n < env.length then .next ((setZ l (env.set n .no)).set n .no) else .bad
  | none => .bad
@[simp] theorem tryE_some (l : List (Nat × Str)) (n : Nat) : tryE (some l) n env = if n < env.length then .next ((setZ l (env.set n .no)).set n .no) else .bad := (rfl)
@[simp] theorem tryR_next (tb : List (Str × List (Nat × Str))) (n : Nat) (e : List Sl) : tryR tb n env (.next e) = .next e := (rfl)
@[simp] theorem tryR_err (tb : List (Str × List (Nat × Str))) (n : Nat) (x : Str) : tryR tb n env (.err x) = tryE (tb.lookup x) n env := by unfold tryR tryE; rfl
@[simp] theorem tryR_ite (tb : List (Str × List (Nat × Str))) (n : Nat) (c : Prop) [Decidable c] (a b : Fl) : tryR tb n env (if c then a else b) = if c then tryR tb n env a else tryR tb n env b := by split <;> rfl
@[simp] theorem setZ_nil : setZ [] env = env := (rfl)
@[simp] theorem setZ_cons (p : Nat × Str) (l : List (Nat × Str)) : setZ (p :: l) env = setZ l (env.set p.1 (.fr false (.str p.2))) := (rfl)
@[simp] theorem t_ex (f : Str) (es : MEs) : evT Γ (.ex f es) env = .of (callR Γ env f es) fun _ => .next env := (rfl)
@[simp] theorem t_st (i : Nat) (own : Bool) (f : Str) (es : MEs) : evT Γ (.st i own f es) env = .of (callR Γ env f es) (put1 own i env) := (rfl)
@[simp] theorem t_if (c : ME) (a b : TB) : evT Γ (.if_ c a b) env = .of (noErr ((evE Γ env c).bind truth)) fun t => ifR t (evT Γ a env) (evT Γ b env) := by
  rw [evT]
  rfl
theorem c_r {f : Str} {n : Nat} {g : List D → R Rv} (h : Γ f = some (n, g)) (es : MEs) : callR Γ env f es = (noErr (evEs Γ env es)).bind fun rs => if rs.length = n then (g (rs.map Rv.d)).bind (ans (rs.any isBo)) else .bad := by
  unfold callR
  rw [h]
theorem fs_try {X : Str → Prop} {B C : List Sl → Prop} {Q : Rv → Prop} {N : List Sl → Prop} {tb : List (Str × List (Nat × Str))} {n : Nat} {f : Fl} (h : FS (fun x => FS X B C Q (tryE (tb.lookup x) n env) N) (fun _ => False) (fun _ => False) (fun _ => False) f N) : FS X B C Q (tryR tb n env f) N := by
  cases h with
  | next h => rw [tryR_next]; exact .next h
  | ret h => exact h.elim
  | brk h => exact h.elim
  | cnt h => exact h.elim
  | err h => rw [tryR_err]; exact h
end
end En
set_option Elab.async false
set_option linter.all false
set_option maxRecDepth 100000
set_option maxHeartbeats 4000000
namespace En
open PySem L2

/-! ### layouts -/
abbrev Fd := Tx × Nat
def fl (p : Fd) : D := .tuple [tx p.1, .int (p.2 : Int)]
@[simp] theorem imm_fl (p : Fd) : imm (fl p) = true := by simp [fl]
@[simp] theorem imms_fl (l : List Fd) : imms (l.map fl) = true := by
  induction l with
  | nil => rfl
  | cons p l ih => simp [imms, ih]
def wid (l : List Fd) : Nat := (l.map (·.2)).sum
theorem wid_take {ps : List Fd} {i : Nat} (hi : i < ps.length) : wid (ps.take (i + 1)) = wid (ps.take i) + ps[i].2 := by
  rw [take_get (List.getElem?_eq_getElem hi)]
  unfold wid
  rw [List.map_append, List.sum_append]
  simp
theorem err_of {α : Type} {r : R α} {x : Str} (h : RS (fun y => y = x) r fun _ => False) : r = .err x := by
  cases h with
  | ok h => exact h.elim
  | err h => rw [h]
theorem nc_fl {p : Fd} (h : Sm p.1) : Nc 1 (fl p) := nc_two (nc_sm h) ⟨by simp [PyData.canLay0], by simp [PyData.depth]⟩
@[simp] theorem lit_right : (PyData.str (Str.ofString "right") : D) = tx [114, 105, 103, 104, 116] := (rfl)
@[simp] theorem lit_none : (PyData.str (Str.ofString "none") : D) = tx [110, 111, 110, 101] := (rfl)
theorem ix_abc2 (i : Int) (h0 : 0 ≤ i) (h1 : i < 26) : ∃ c, c < 1114112 ∧ abcT[i.toNat]? = some c ∧ semIx (tx abcT) (.int i) = some (tx [c]) := by
  obtain ⟨k, rfl⟩ := Int.eq_ofNat_of_zero_le h0
  have hk : k < abcT.length := by show k < 26; omega
  exact ⟨abcT[k], abc_sm _ (List.getElem_mem hk), by simpa using List.getElem?_eq_getElem hk, ix_tx (sz _ (by decide)) (List.getElem?_eq_getElem hk)⟩
theorem sum_nats (l : List Nat) : semBi "sum" [.list (l.map fun z : Nat => PyData.int (z : Int))] = some (false, .int (l.sum : Int)) := by
  have h := sum_ints (l.map fun z : Nat => (z : Int))
  rw [List.map_map] at h
  have hs : (l.map fun z : Nat => (z : Int)).sum = (l.sum : Int) := by
    clear h
    induction l with
    | nil => rfl
    | cons a l ih => simp [ih]
  rw [hs] at h
  exact h
namespace M
theorem nd_app {α : Type} {l : List α} {x : α} (h : l.Nodup) (hx : x ∉ l) : (l ++ [x]).Nodup := by
  rw [List.nodup_append]
  exact ⟨h, by simp, fun a ha b hb e => hx (by rw [List.mem_singleton] at hb; rw [← hb, ← e]; exact ha)⟩
/-- the names differ -/
theorem namesN_ok {Γ : FT} {n : Nat} {X : Str → Prop} {K : Rv → Prop} (hs : StreamAt Γ) (c : Int) (many : Nat) (hm : many ≤ 20) (q : ∀ ds : List Tx, ds.length = many → (∀ d ∈ ds, Sm d) → ds.Nodup → K (.ow false (.list (ds.map tx)))) : RS X (runF Γ n names [.int c, .int (many : Int)]) K := by
  obtain ⟨Γ1, n1, e1⟩ := hs
  have many62 : rg1 (.int (many : Int)) = .ok (false, rngD 0 many) := rg1_nat many (by omega)
  refine rs_run ?_
  refine fs_at 3 (fun e => ∃ b : Tx, b.length = 8 ∧ Sm b ∧ e = [.fr false (.int c), .fr false (.int (many : Int)), .fr false (tx abcT), .fr false (tx b), .no, .no, .no]) ?_ ?_
  · simp [names, takeS, startE, e_call e1, En.div_int]
    refine stream_okN (Γ := Γ1) (c / 3) 8 (by omega) fun l hl _ => ?_
    simp
    refine lc_signs (P := fun c => c < 1114112) (fun x hx => ?_) fun b hb hbs => ?_
    · obtain ⟨c, hc, e⟩ := ix_abc (x % 26) (by omega) (by omega)
      simp [lcT, En.mod_int, e]
      exact ⟨c, hc, rfl⟩
    rw [hl] at hb
    have hbs : Sm b := hbs
    have nx : ∃ b' : Tx, b'.length = 8 ∧ Sm b' ∧ tx b = tx b' := ⟨b, hb, hbs, rfl⟩
    refine ⟨sz _ (by omega), ?_⟩
    simp [M.join_sg (l := b) (by omega), En.mod_int, many62]
    refine ⟨fun _ => ⟨fun hm8 => ?_, fun _ => nx⟩, fun _ => nx⟩
    have hm8 : many ≤ 8 := by omega
    refine rs_lc (fun i m L => m = false ∧ ∃ ds : List Tx, L = ds.map tx ∧ ds.length = i ∧ (∀ d ∈ ds, Sm d) ∧ ds.Nodup ∧ ∀ d ∈ ds, d.length ≤ i) ⟨rfl, [], rfl, rfl, by simp, by simp, by simp⟩ (fun i d m L hd' h => ?_) (fun m L h => ?_)
    · obtain ⟨rfl, ds, rfl, hl, hd, hn, hle⟩ := h
      obtain ⟨hi, rfl⟩ := rngD_at hd'
      have sp := sp_to (l := b) (i := i + 1) (by omega)
      rw [show ((i + 1 : Nat) : Int) = (i : Int) + 1 by omega] at sp
      simp [lcT, sp]
      have hlen : (b.take (i + 1)).length = i + 1 := by rw [List.length_take]; omega
      refine ⟨ds ++ [b.take (i + 1)], by simp, by simp [hl], fun d h => ?_, nd_app hn fun h => ?_, fun d h => ?_⟩
      · rcases List.mem_append.mp h with h | h
        · exact hd d h
        · rw [List.mem_singleton.mp h]; exact sm_take hbs
      · have := hle _ h
        omega
      · rcases List.mem_append.mp h with h | h
        · have := hle d h
          omega
        · rw [List.mem_singleton.mp h]; omega
    · obtain ⟨rfl, ds, rfl, hl, hd, hn, _⟩ := h
      refine ⟨sz _ (by simp [rngD]; omega), ?_⟩
      exact q ds (by simpa [rngD] using hl) hd hn
  · rintro _ ⟨b, hb, hbs, rfl⟩
    obtain ⟨k, hk, hk8⟩ : ∃ k : Nat, (k : Int) = 1 + c / 3 % 8 ∧ 1 ≤ k ∧ k ≤ 8 := ⟨(1 + c / 3 % 8).toNat, by omega, by omega, by omega⟩
    have ll : (b.take k).length = k := by rw [List.length_take]; omega
    have hbk : Sm (b.take k) := sm_take hbs
    simp [names, dropS, -fs_if, En.mod_int, En.div_int, ← hk, sp_to (l := b) (i := k) (by omega)]
    generalize b.take k = a at *
    simp [-fs_if, len_tx (l := a) (sz _ (by omega)), ll]
    obtain ⟨p, hp, hpk⟩ : ∃ p : Nat, (p : Int) = c / 24 % (k : Int) ∧ p < k := by
      have h1 := Int.emod_nonneg (c / 24) (show (k : Int) ≠ 0 by omega)
      have h2 := Int.emod_lt_of_pos (c / 24) (show (0 : Int) < (k : Int) by omega)
      exact ⟨(c / 24 % (k : Int)).toNat, by omega, by omega⟩
    simp [En.mod_int (i := c / 24) (j := (k : Int)) (by omega), ← hp, many62]
    refine rs_lc (fun i m L => m = false ∧ ∃ ds : List Tx, L = ds.map tx ∧ ds.length = i ∧ (∀ d ∈ ds, Sm d) ∧ ds.Nodup ∧ ∀ d ∈ ds, ∃ j y, j < i ∧ abcT[((c / 3 + 7 * (j : Int)) % 26).toNat]? = some y ∧ d = a.set p y) ⟨rfl, [], rfl, rfl, by simp, by simp, by simp⟩ (fun i d m L hd' h => ?_) (fun m L h => ?_)
    · obtain ⟨rfl, ds, rfl, hl, hd, hn, hle⟩ := h
      obtain ⟨hi, rfl⟩ := rngD_at hd'
      obtain ⟨y, hy, hy2, e⟩ := ix_abc2 ((c / 3 + 7 * (i : Int)) % 26) (by omega) (by omega)
      simp [lcT, En.mod_int, En.div_int, mul_l (i := 7) (by omega), e, sp_to (l := a) (i := p) (by omega), sp_from (l := a) (i := p) (by omega), sp_a1 (l := a) (i := p) (by omega), sp_a2 (l := a) (i := p) (by omega) (by omega)]
      refine ⟨ds ++ [a.set p y], by simp, by simp [hl], fun d h => ?_, nd_app hn fun h => ?_, fun d h => ?_⟩
      · rcases List.mem_append.mp h with h | h
        · exact hd d h
        · rw [List.mem_singleton.mp h]; exact sm_set hbk hy
      · obtain ⟨j, y', hj, hy', he⟩ := hle _ h
        have e3 : y = y' := by
          have := congrArg (·[p]?) he
          simp only [List.getElem?_set_self (show p < a.length by omega)] at this
          cases this
          rfl
        subst e3
        have : i = j := by
          have nd : abcT.Nodup := by unfold abcT; decide
          have e4 := (List.getElem?_inj (List.getElem?_eq_some_iff.mp hy2).1 nd).mp (hy2.trans hy'.symm)
          omega
        omega
      · rcases List.mem_append.mp h with h | h
        · obtain ⟨j, y', hj, r⟩ := hle d h
          exact ⟨j, by omega, y', r⟩
        · exact ⟨i, by omega, y, hy2, List.mem_singleton.mp h⟩
    · obtain ⟨rfl, ds, rfl, hl, hd, hn, _⟩ := h
      refine ⟨sz _ (by simp [rngD]; omega), ?_⟩
      simp
      exact q ds (by simpa [rngD] using hl) hd hn
def sizes : MF := ⟨5, (.cons (.ife (.cmp .Eq (.bin .Mod (.v 0) (.ki 4)) (.ki 1)) (.cons (.set 2 (.lc (.n 3) (.r1 (.v 1)) .no (.ki 1)) true) (.cons (.put 2 (.bin .Mod (.bin .FloorDiv (.v 0) (.ki 4)) (.v 1)) (.bin .Add (.ki 1) (.bin .Mod (.bin .FloorDiv (.v 0) (.ki 32)) (.ki 40)))) (.cons (.reto 2) .nil))) .nil) (.cons (.ret (.lc (.n 4) (.e (.call "_law_stream" (.cons (.v 0) (.cons (.v 1) .nil)))) .no (.bin .Add (.ki 1) (.bin .Mod (.v 4) (.ki 6))))) .nil))⟩
theorem sizes_ok {Γ : FT} {n : Nat} {X : Str → Prop} {K : Rv → Prop} (hs : StreamAt Γ) (c : Int) (many : Nat) (h1 : 1 ≤ many) (hm : many ≤ 1000) (q : ∀ zs : List Nat, zs.length = many → (∀ z ∈ zs, 1 ≤ z ∧ z ≤ 40) → K (.ow false (.list (zs.map fun z : Nat => .int (z : Int))))) : RS X (runF Γ n sizes [.int c, .int (many : Int)]) K := by
  obtain ⟨Γ1, n1, e1⟩ := hs
  have many62 : rg1 (.int (many : Int)) = .ok (false, rngD 0 many) := rg1_nat many (by omega)
  refine rs_run ?_
  simp [sizes, startE, En.mod_int, En.div_int, many62, e_call e1]
  refine ⟨fun _ => ?_, fun _ => ?_⟩
  · refine rs_lc (fun i m L => m = false ∧ L = (List.replicate i 1).map fun z : Nat => PyData.int (z : Int)) ⟨rfl, rfl⟩ (fun i d m L hd' h => ?_) (fun m L h => ?_)
    · obtain ⟨rfl, rfl⟩ := h
      obtain ⟨hi, rfl⟩ := rngD_at hd'
      simp [lcT, List.replicate_succ']
    · obtain ⟨rfl, rfl⟩ := h
      have hr : (rngD 0 many).length = many := by simp [rngD]
      rw [hr]
      obtain ⟨p, hp, hpk⟩ : ∃ p : Nat, (p : Int) = c / 4 % (many : Int) ∧ p < many := by
        have h1 := Int.emod_nonneg (c / 4) (show (many : Int) ≠ 0 by omega)
        have h2 := Int.emod_lt_of_pos (c / 4) (show (0 : Int) < (many : Int) by omega)
        exact ⟨(c / 4 % (many : Int)).toNat, by omega, by omega⟩
      obtain ⟨z, hz, hz2⟩ : ∃ z : Nat, (z : Int) = 1 + c / 32 % 40 ∧ 1 ≤ z ∧ z ≤ 40 := ⟨(1 + c / 32 % 40).toNat, by omega, by omega, by omega⟩
      refine ⟨sz _ (by first | omega | (simp; omega)), ?_⟩
      have ij : ixN many (p : Int) = some p := by
        unfold ixN
        simp
        omega
      simp [En.mod_int (i := c / 4) (j := (many : Int)) (by omega), ← hp, ← hz, ij]
      have := q ((List.replicate many 1).set p z) (by simp) fun x hx => by
        rcases List.mem_or_eq_of_mem_set hx with hx | hx
        · rw [List.eq_of_mem_replicate hx]; omega
        · rw [hx]; omega
      simpa [List.map_set] using this
  · refine stream_okN (Γ := Γ1) c many (by omega) fun l hl hp => ?_
    simp
    refine rs_lc (fun i m L => m = false ∧ ∃ zs : List Nat, L = (zs.map fun z : Nat => PyData.int (z : Int)) ∧ zs.length = i ∧ ∀ z ∈ zs, 1 ≤ z ∧ z ≤ 40) ⟨rfl, [], rfl, rfl, by simp⟩ (fun i d m L hd' h => ?_) (fun m L h => ?_)
    · obtain ⟨rfl, zs, rfl, hz, hd⟩ := h
      obtain ⟨hi, rfl⟩ := map_at hd'
      obtain ⟨z, hz', hz2⟩ : ∃ z : Nat, (z : Int) = 1 + l[i] % 6 ∧ 1 ≤ z ∧ z ≤ 6 := ⟨(1 + l[i] % 6).toNat, by omega, by omega, by omega⟩
      simp [lcT, En.mod_int, ← hz']
      exact ⟨zs ++ [z], by simp, by simp [hz], fun x hx => by
        rcases List.mem_append.mp hx with hx | hx
        · exact hd x hx
        · rw [List.mem_singleton.mp hx]; omega⟩
    · obtain ⟨rfl, zs, rfl, hz, hd⟩ := h
      refine ⟨sz _ (by first | omega | (simp; omega)), ?_⟩
      simp
      exact q zs (by simpa [hl] using hz) hd
def layoutWidth : MF := ⟨3, (.cons (.ret (.bi "sum" (.cons (.lc (.t [1, 2]) (.e (.v 0)) .no (.v 2)) .nil))) .nil)⟩
theorem layoutWidth_eq {Γ : FT} {n : Nat} (ps : List Fd) (hp : ps.length ≤ 1000) : runF Γ n layoutWidth [.list (ps.map fl)] = .ok (.fr false (.int (wid ps : Int))) := by
  have main : RS (fun _ => False) (runF Γ n layoutWidth [.list (ps.map fl)]) fun v => v = .fr false (.int (wid ps : Int)) := by
    refine rs_run ?_
    simp [layoutWidth, startE]
    refine rs_lc (fun i m L => m = false ∧ L = ((ps.take i).map (·.2)).map fun z : Nat => PyData.int (z : Int)) ⟨rfl, rfl⟩ (fun i d m L hd' h => ?_) (fun m L h => ?_)
    · obtain ⟨rfl, rfl⟩ := h
      obtain ⟨hi, rfl⟩ := map_at hd'
      have e := take_get (l := ps) (List.getElem?_eq_getElem hi)
      generalize ps.take (i + 1) = T at *
      subst e
      generalize ps.take i = T at *
      simp [lcT, fl]
    · obtain ⟨rfl, rfl⟩ := h
      rw [List.length_map, List.take_of_length_le (Nat.le_refl _)]
      refine ⟨sz _ (by first | omega | (simp; omega)), ?_⟩
      rw [sum_nats, show (ps.map (·.2)).sum = wid ps from rfl]
      simp
  obtain ⟨a, e, rfl⟩ := rs_eq main
  exact e
def fieldSpan : MF := ⟨5, (.cons (.set 2 (.ki 0) false) (.cons (.for_ (.t [3, 4]) (.e (.v 0)) (.cons (.ife (.cmp .Eq (.v 3) (.v 1)) (.cons (.ret (.tup (.cons (.v 2) (.cons (.bin .Add (.v 2) (.v 4)) .nil)))) .nil) .nil) (.cons (.set 2 (.bin .Add (.v 2) (.v 4)) false) .nil))) (.cons (.raise_ "NoField" "no such field") .nil)))⟩
def FieldSpanAt (Γ : FT) : Prop := ∃ Γ1 n1, Γ "field_span" = some (2, fun ds => runF Γ1 n1 fieldSpan ds)
theorem fieldSpan_eq {Γ : FT} {n : Nat} (ps : List Fd) (hn : (ps.map (·.1)).Nodup) (k : Nat) (hk : k < ps.length) : runF Γ n fieldSpan [.list (ps.map fl), tx ps[k].1] = .ok (.fr false (.tuple [.int (wid (ps.take k) : Int), .int ((wid (ps.take k) : Int) + (ps[k].2 : Int))])) := by
  have main : RS (fun _ => False) (runF Γ n fieldSpan [.list (ps.map fl), tx ps[k].1]) fun v => v = .fr false (.tuple [.int (wid (ps.take k) : Int), .int ((wid (ps.take k) : Int) + (ps[k].2 : Int))]) := by
    refine rs_run ?_
    simp [fieldSpan, startE]
    obtain ⟨I, hI⟩ : ∃ I : Nat → List Sl → Prop, ∀ i e, I i e = ∃ (s3 s4 : Sl), e = [.fr true (.list (ps.map fl)), .fr false (tx ps[k].1), .fr false (.int (wid (ps.take i) : Int)), s3, s4] ∧ i ≤ k := ⟨_, fun _ _ => rfl⟩
    refine fs_for I ?_ (fun i d e hd h => ?_) (fun e h => ?_)
    · rw [hI]
      exact ⟨_, _, rfl, Nat.zero_le _⟩
    · rw [hI] at h
      obtain ⟨s3, s4, rfl, hle⟩ := h
      obtain ⟨hi, rfl⟩ := map_at hd
      by_cases hik : i = k
      · subst hik
        simp [fl]
        exact sz _ (by decide)
      · have hne : ps[i].1 ≠ ps[k].1 := fun e => hik (by
          have h1 : (ps.map (·.1))[i]? = some ps[i].1 := by rw [List.getElem?_map, List.getElem?_eq_getElem hi]; rfl
          have h2 : (ps.map (·.1))[k]? = some ps[i].1 := by rw [List.getElem?_map, List.getElem?_eq_getElem hk, e]; rfl
          exact (List.getElem?_inj (by simpa using hi) hn).mp (h1.trans h2.symm))
        simp [fl, hne, hI]
        exact ⟨by have := wid_take hi; omega, by omega⟩
    · rw [hI] at h
      obtain ⟨s3, s4, rfl, hle⟩ := h
      rw [List.length_map] at hle
      omega
  obtain ⟨a, e, rfl⟩ := rs_eq main
  exact e
theorem fieldSpan_no {Γ : FT} {n : Nat} (ps : List Fd) (x : Tx) (hx : x ∉ ps.map (·.1)) : runF Γ n fieldSpan [.list (ps.map fl), tx x] = .err "NoField" := by
  have main : RS (fun y => y = "NoField") (runF Γ n fieldSpan [.list (ps.map fl), tx x]) fun v => False := by
    refine rs_run ?_
    simp [fieldSpan, startE]
    obtain ⟨I, hI⟩ : ∃ I : Nat → List Sl → Prop, ∀ i e, I i e = ∃ (s2 : Int) (s3 s4 : Sl), e = [.fr true (.list (ps.map fl)), .fr false (tx x), .fr false (.int s2), s3, s4] := ⟨_, fun _ _ => rfl⟩
    refine fs_for I ?_ (fun i d e hd h => ?_) (fun e h => ?_)
    · rw [hI]
      exact ⟨_, _, _, rfl⟩
    · rw [hI] at h
      obtain ⟨s2, s3, s4, rfl⟩ := h
      obtain ⟨hi, rfl⟩ := map_at hd
      have hne : ps[i].1 ≠ x := fun e => hx (by rw [← e]; exact List.mem_map_of_mem (List.getElem_mem hi))
      simp [fl, hne, hI]
    · rw [hI] at h
      obtain ⟨s2, s3, s4, rfl⟩ := h
      simp
  exact err_of main
def fieldPart : MF := ⟨5, (.cons (.unp [3, 4] (.call "field_span" (.cons (.v 0) (.cons (.v 1) .nil)))) (.cons (.ret (.sl (.v 2) (.so (.v 3)) (.so (.v 4)))) .nil))⟩
theorem fieldPart_eq {Γ : FT} {n : Nat} (hf : FieldSpanAt Γ) (ps : List Fd) (hn : (ps.map (·.1)).Nodup) (k : Nat) (hk : k < ps.length) (r : Tx) (hr : r.length ≤ 1000) : runF Γ n fieldPart [.list (ps.map fl), tx ps[k].1, tx r] = .ok (.fr false (tx (cutL r (some (wid (ps.take k) : Int)) (some ((wid (ps.take k) : Int) + (ps[k].2 : Int)))))) := by
  obtain ⟨Γ1, n1, e1⟩ := hf
  have main : RS (fun _ => False) (runF Γ n fieldPart [.list (ps.map fl), tx ps[k].1, tx r]) fun v => v = .fr false (tx (cutL r (some (wid (ps.take k) : Int)) (some ((wid (ps.take k) : Int) + (ps[k].2 : Int))))) := by
    refine rs_run ?_
    simp [fieldPart, startE, e_call e1, fieldSpan_eq ps hn k hk, sl_tx (l := r) (sz _ (by omega))]
  obtain ⟨a, e, rfl⟩ := rs_eq main
  exact e
theorem fieldPart_no {Γ : FT} {n : Nat} (hf : FieldSpanAt Γ) (ps : List Fd) (x r : Tx) (hx : x ∉ ps.map (·.1)) : runF Γ n fieldPart [.list (ps.map fl), tx x, tx r] = .err "NoField" := by
  obtain ⟨Γ1, n1, e1⟩ := hf
  refine err_of (rs_run ?_)
  simp [fieldPart, startE, e_call e1, fieldSpan_no ps x hx]
end M
end En
set_option Elab.async false
set_option linter.all false
set_option maxRecDepth 100000
set_option maxHeartbeats 4000000
namespace En
open PySem PySem.Spec PyProof.Rows L2

/-! ### a def that is given a list to keep: its first parameter is its own -/
def er (H : Hp) (a : Addr) : Hp := fun b => if b = a then none else H b
theorem er_self {H : Hp} {a : Addr} : er H a a = none := if_pos rfl
theorem er_ne {H : Hp} {a b : Addr} (h : b ≠ a) : er H a b = H b := if_neg h
theorem er_same {H : Hp} {a : Addr} : Same (er H a) H := fun b x e => by
  by_cases h : b = a
  · rw [h, er_self] at e; cases e
  · rwa [er_ne h] at e
theorem dts_imms {H : Hp} {L L' : AS} : ∀ (ds : List D) (vs : List V), imms ds = true → Dts H L vs ds → Dts H L' vs ds
  | [], _, _, h => by cases h; exact .nil
  | d :: ds, _, n, h => by
    simp only [imms, Bool.and_eq_true] at n
    cases h with
    | cons h1 h2 => exact .cons (Dt.imm d _ n.1 h1) (dts_imms ds _ n.2 h2)
def startO (n : Nat) (d : D) (ds : List D) : List Sl := .ow false d :: startE (n - 1) ds
def endF : Fl → R Rv
  | .bad => .bad
  | .err x => .err x
  | .next _ => .ok (.fr false .none)
  | .ret r => .ok r
  | .brk _ => .bad
  | .cnt _ => .bad
def runO (Γ : FT) (fuel : Nat) (f : MF) : List D → R Rv
  | [] => .bad
  | d :: ds => endF (evSs Γ fuel f.body (startO f.slots d ds))
def spO (mg : Str → Option Value) (n : Nat) (g : List D → R Rv) : L2.Sp := fun vs H Q E => vs.length = n ∧ ∃ (M : AS) (a : Addr) (xs : List V) (ls : List D) (ws : List V) (ds : List D), vs = .ref a :: ws ∧ (∀ b, M b → ∃ o, H b = some o ∧ Mut (some o)) ∧ ¬ M a ∧ H a = some (.lst xs) ∧ Dts H Any xs ls ∧ imms ls = true ∧
  Dts H (fun b => ¬ M b ∧ b ≠ a) ws ds ∧ Rp E mg (er H a) (g (.list ls :: ds)) fun r => ∀ v H', Same (er H a) H' → RvOk (er H a) M (er H a) H' v r → Q v H'
theorem sp_end {E : XK} {mg : Str → Option Value} {H0 H : Hp} {M M1 : AS} {Q : VK} {f : Fl} (h : Rp E mg H0 (endF f) fun r => ∀ v H', Same H0 H' → RvOk H0 M H0 H' v r → Q v H') :
    Sp E mg { nx := fun _ H' => Q .non H', rt := Q } H0 M H M1 f := by
  cases f with
  | bad => exact h
  | err x => exact h
  | next e => exact fun σ' H' M' k _ => h _ _ k.same (show RvOk _ _ _ _ V.non (.fr false .none) from .non)
  | ret r =>
    refine fun v H' M' s m q => h v H' s ?_
    have wk : ∀ {m' : Bool} (a : Addr), Lm H0 M' m' a → Lm H0 M m' a := fun {m'} a l => ⟨fun z => l.1 (m a z), l.2⟩
    cases r with
    | fr b d => exact Dt.wk wk q
    | ow b d =>
      obtain ⟨a, x, y, z, u, t⟩ := q
      exact ⟨a, x, y, fun z' => z (m a z'), u, t.wk fun c l => ⟨wk c l.1, l.2⟩⟩
    | bo b d => exact q.wk wk
  | brk e => exact h.elim
  | cnt e => exact h.elim
theorem env_startO {H : Hp} {M : AS} {N : List Str} {a : Addr} {xs ws : List V} {ls ds : List D} (hM : ∀ b, M b → ∃ o, H b = some o ∧ Mut (some o)) (ha : ¬ M a) (hH : H a = some (.lst xs)) (hx : Dts H Any xs ls) (hi : imms ls = true) (h : Dts H (fun b => ¬ M b ∧ b ≠ a) ws ds) (hl : ws.length + 1 ≤ N.length) :
    EnvOk (er H a) M H (fun b => M b ∨ b = a) (L2.start N (.ref a :: ws)) (startO N.length (.list ls) ds) := by
  have hd : ds.length ≤ N.length - 1 := by rw [← h.length]; omega
  have tail : ∀ i (s : Sl), (startE (N.length - 1) ds)[i]? = some s → (∃ d v, ds[i]? = some d ∧ ws[i]? = some v ∧ s = .fr (!imm d) d ∧ Dt H (fun b => ¬ M b ∧ b ≠ a) v d) ∨ s = .no := fun i s e => by
    by_cases hi : i < ds.length
    · unfold startE at e
      rw [List.getElem?_append_left (by simpa using hi), List.getElem?_map] at e
      cases e1 : ds[i]? with
      | none => rw [e1] at e; cases e
      | some d =>
        rw [e1] at e
        cases e
        obtain ⟨v, e2, t⟩ := h.get e1
        exact .inl ⟨d, v, e1, e2, rfl, t⟩
    · unfold startE at e
      rw [List.getElem?_append_right (by simpa using hi)] at e
      have := List.mem_of_getElem? e
      rw [List.mem_replicate] at this
      exact .inr this.2
  have now : ∀ (j : Nat) (m : Bool) (d : D), (startO N.length (.list ls) ds)[j]? = some (.ow m d) → j = 0 := fun j m d e => by
    cases j with
    | zero => rfl
    | succ j =>
      rcases tail j _ e with ⟨d', v, _, _, z, _⟩ | z <;> cases z
  refine ⟨?_, er_same, fun b m => ⟨.inl m, fun z => ?_⟩, fun b hb => ?_, fun i s e => ?_, fun i j m d m' d' b e1 e2 _ _ => by rw [now i m d e1, now j m' d' e2]⟩
  · rw [start_len (by simpa using hl)]
    unfold startO
    rw [List.length_cons, startE_len hd]
    omega
  · obtain ⟨o, q, _⟩ := hM b m
    rw [er_ne (fun z' => ha (by rw [← z']; exact m)), q] at z
    cases z
  · rcases hb with hb | rfl
    · exact hM b hb
    · exact ⟨_, hH, trivial⟩
  · cases i with
    | zero =>
      cases e
      exact ⟨a, rfl, .inr rfl, er_self, .lst hH (dts_imms ls xs hi hx)⟩
    | succ i =>
      rcases tail i s e with ⟨d, v, e1, e2, rfl, t⟩ | rfl
      · have hv : (L2.start N (.ref a :: ws))[i + 1]? = some (some v) := by
          have hlt := (List.getElem?_eq_some_iff.mp e2).1
          unfold L2.start
          rw [List.getElem?_append_left (by rw [List.length_map, List.length_cons]; omega), List.getElem?_map, List.getElem?_cons_succ, e2]
          rfl
        refine ⟨v, hv, ?_⟩
        cases q : imm d with
        | true => exact Dt.imm d v q t
        | false => exact t.wk fun b l => ⟨fun z => z.elim l.1 l.2, fun z => by cases z⟩
      · trivial
section
variable {P : Program} {w : World} {K : PySem.W.Frag} {mg : Str → Option Value} {base : Heap}
theorem fn_okO {x qual : Str} {st : Stmt} {fa : Addr} {fd : FuncData} {N ps : List Str} {k : Nat} {Γ : FT} {ex : Ex} (F : Fun K x qual st fa fd) (S : FnScope N ps (defScope st)) (mf : MF) (hn : mf.slots = N.length) (hp : ps.length ≤ N.length) (fuel : List D → Nat)
    (hc : okSs ex N (defScope st) mf.body (defBody st) = true) (blt : Blt mg) (fns : FnsOk P w K mg base k Γ) (rz : RzOk ex mg P w K base) :
    FnOk P w K mg base (L2.CX P w) (k + 3) fa fd ps (spO mg ps.length fun ds => runO Γ (fuel ds) mf ds) := by
  refine F.okX S (fun vs H Q E h => h.1) (fun cdv A outer s H vs Q E hr h => ?_)
  obtain ⟨hl, M, a, xs, ls, ws, ds, rfl, hM, ha, hH, hx, hi, hD, h⟩ := h
  have tk : Takes (cxOf (L2.CX P w) P w K mg base N qual (defScope st) fa cdv A outer s H E) (fun c d _ H => E c d H) := takes_of rfl rfl rfl rfl
  have o : OkS (cxOf (L2.CX P w) P w K mg base N qual (defScope st) fa cdv A outer s H E) Γ E k ex :=
    ⟨⟨rfl, S.nd, by have := hr.un; show (A.deeper _).units + 65 < cLine; omega, hr, tk, blt, fns⟩, fun _ => rfl, S.kind, passes_of rfl, fun x m j p p2 p3 pos hx hg => rz.rz _ E x m j p p2 p3 pos rfl rfl rfl rfl rfl tk hx hg, rfl, rfl, rz.cl, rz.xf⟩
  refine ⟨_, sSs mf.body (defBody st) o hc, er H a, M, fun b => M b ∨ b = a, startO mf.slots (.list ls) ds, ?_, sp_end h⟩
  rw [hn]
  exact env_startO hM ha hH hx hi hD (by rw [List.length_cons] at hl; omega)
/-! ### f(g(x), y): f keeps what g tells -/
def okHl (N : List Str) (sc : Scope) (fo fg : Str) : List Stmt → Bool
  | [.Return (some (.Call (.Name f _) [.Call (.Name g _) [.Name x _] [] _, .Name y _] [] _)) _] => decide (f = fo) && decide (g = fg) && glOk sc f && glOk sc g && slotOk N sc 0 x && slotOk N sc 1 y
  | _ => false
def hlG (gg go : List D → R Rv) : List D → R Rv
  | [x, y] => match gg [x] with
    | .ok (.ow _ (.list ls)) => if imms ls then go [.list ls, y] else .bad
    | _ => .bad
  | _ => .bad
theorem hl_fn {x qual : Str} {st : Stmt} {fa : Addr} {fd : FuncData} {N ps : List Str} {k : Nat} {fo fg : Str} (F : Fun K x qual st fa fd) (S : FnScope N ps (defScope st)) (hps : ps.length = 2) (hN : N.length = 2) (hc : okHl N (defScope st) fo fg (defBody st) = true)
    {ao : Addr} {fdo : FuncData} {pso : List Str} {go : List D → R Rv} (Fo : FnOk P w K mg base (L2.CX P w) k ao fdo pso (spO mg 2 go)) (mo : mg fo = some (.ref ao)) (ko : PySem.W.keepIn K (.ref ao) = true) (bo : Binds K fdo pso [])
    {ag : Addr} {fdg : FuncData} {psg : List Str} {gg : List D → R Rv} (Fg : FnOk P w K mg base (L2.CX P w) k ag fdg psg (spG mg 1 gg)) (mgg : mg fg = some (.ref ag)) (kg : PySem.W.keepIn K (.ref ag) = true) (bg : Binds K fdg psg []) :
    FnOk P w K mg base (L2.CX P w) (k + 3) fa fd ps (spG mg 2 (hlG gg go)) := by
  refine F.okX S (fun vs H Q E h => h.1.trans hps.symm) fun cdv A outer s H vs Q E hr h => ?_
  obtain ⟨hl, M, ds, hM, hD, h⟩ := h
  have tk : Takes (cxOf (L2.CX P w) P w K mg base N qual (defScope st) fa cdv A outer s H E) (fun c d _ H => E c d H) := takes_of rfl rfl rfl rfl
  unfold okHl at hc
  split at hc
  · rename_i f q1 g q2 x0 q3 q4 y q5 q6 q7 heq
    simp only [Bool.and_eq_true, decide_eq_true_eq] at hc
    obtain ⟨⟨⟨⟨⟨rfl, rfl⟩, c1⟩, c2⟩, c3⟩, c4⟩ := hc
    have cp : ∀ (cls : Value) (d : Option Addr) (σ : L2.St) (H : Hp), E cls d H → E cls d H := fun _ _ _ _ q => q
    rw [heq]
    have p1 := pe_call (p := q2) (pos := q4) (X := cxOf (L2.CX P w) P w K mg base N qual (defScope st) fa cdv A outer s H E) Fg (hr.mono (by omega)) (gl_of (X := cxOf (L2.CX P w) P w K mg base N qual (defScope st) fa cdv A outer s H E) c2).1 mgg kg bg .nil (passes_call tk cp) (pa_cons (pe_v (pos := q3) c3) pa_nil) (gl_of (X := cxOf (L2.CX P w) P w K mg base N qual (defScope st) fa cdv A outer s H E) c2).2 rfl rfl
    have p2 := pe_call (p := q1) (pos := q6) (X := cxOf (L2.CX P w) P w K mg base N qual (defScope st) fa cdv A outer s H E) Fo (hr.mono (by omega)) (gl_of (X := cxOf (L2.CX P w) P w K mg base N qual (defScope st) fa cdv A outer s H E) c1).1 mo ko bo .nil (passes_call tk cp) (pa_cons p1 (pa_cons (pe_v (pos := q5) c4) pa_nil)) (gl_of (X := cxOf (L2.CX P w) P w K mg base N qual (defScope st) fa cdv A outer s H E) c1).2 rfl rfl
    refine ⟨_, pss_cons (ps_ret p2) pss_nil, ?_⟩
    obtain ⟨v0, v1, rfl⟩ : ∃ v0 v1, vs = [v0, v1] := by
      match vs, hl with
      | [a, b], _ => exact ⟨a, b, rfl⟩
    have hst : L2.start N [v0, v1] = [some v0, some v1] := by unfold L2.start; rw [hN]; rfl
    rw [hst]
    cases hD with
    | cons t0 hD =>
      rename_i d0 ds
      cases hD with
      | cons t1 hD =>
        rename_i d1 ds
        cases hD
        simp only [hlG] at h
        split at h
        case h_2 => exact h.elim
        rename_i m ls eg
        split at h
        case isFalse => exact h.elim
        rename_i him
        refine ⟨v0, rfl, rfl, M, [d0], hM, .cons t0 .nil, ?_⟩
        rw [eg]
        intro v H1 s1 rv
        obtain ⟨a, rfl, ha, hm, _, ob⟩ := rv
        cases ob with
        | lst hH hx =>
          rename_i xs
          have fr : ∀ b, H b ≠ none → b ≠ a := fun b hb z => hb (by rw [z]; exact ha)
          have se : Same H (er H1 a) := fun b o e => by rw [er_ne (fr b (by rw [e]; simp))]; exact s1 b o e
          refine ⟨v1, rfl, rfl, M, a, xs, ls, [v1], [d1], rfl, fun b hb => ?_, hm, hH, hx.wk fun _ _ => trivial, him, .cons (Dt.go (fun b u l e => ⟨s1 _ _ e, l, fr b (by rw [e]; simp)⟩) (fun _ _ r => sm_rd s1 r) _ _ t1) .nil, ?_⟩
          · obtain ⟨o, e, t⟩ := hM b hb
            exact ⟨o, s1 _ _ e, t⟩
          · cases er1 : go [.list ls, d1] with
            | bad => rw [er1] at h; exact h.elim
            | err z => rw [er1] at h; exact fun C H' hC sm => h C H' hC (se.trans sm)
            | ok r =>
              rw [er1] at h
              refine fun v H2 s2 rv2 => h v H2 (se.trans s2) ?_
              have wk : ∀ {m' : Bool} (b : Addr), Lm (er H1 a) M m' b → Lm H M m' b := fun {m'} b l => ⟨l.1, fun z => se.free (l.2 z)⟩
              cases r with
              | fr b d => exact Dt.wk wk rv2
              | ow b d =>
                obtain ⟨c, x, y, z, u, t⟩ := rv2
                exact ⟨c, x, se.free y, z, se.free u, t.wk fun c l => ⟨wk c l.1, l.2⟩⟩
              | bo b d => exact Cn.wk wk rv2
  · cases hc
theorem fns_hl {x fo fg : Str} {st sto : Stmt} {N ps No pso : List Str} {k : Nat} {Γ : FT} {gg : List D → R Rv} (G : FnsOk P w K mg base (k + 3) Γ) (h : Has K mg x st ps) (S : FnScope N ps (defScope st)) (hps : ps.length = 2) (hN : N.length = 2) (hc : okHl N (defScope st) fo fg (defBody st) = true)
    (ho : Has K mg fo sto pso) {ko : Nat} (hko : ko ≤ k) {Γo : FT} (Go : FnsOk P w K mg base ko Γo) (So : FnScope No pso (defScope sto)) (mf : MF) (fuel : List D → Nat) (hpo : pso.length = 2) (hco : (decide (mf.slots = No.length) && decide (pso.length ≤ No.length) && okSs (exL []) No (defScope sto) mf.body (defBody sto)) = true) (blt : Blt mg) (hg : Γ fg = some (1, gg)) :
    FnsOk P w K mg base (k + 6) (put Γ x 2 (hlG gg fun ds => runO Γo (fuel ds) mf ds)) := by
  obtain ⟨fa, fd, F, hm, hb⟩ := h
  obtain ⟨ao, fdo, Fo, mo, bo⟩ := ho
  obtain ⟨ag, fdg, psg, Fg, mgg, kg, bg⟩ := G _ _ _ hg
  simp only [Bool.and_eq_true, decide_eq_true_eq] at hco
  have Fo2 := fn_okO (P := P) (w := w) (base := base) Fo So mf hco.1.1 hco.1.2 fuel hco.2 blt Go rz0
  rw [hpo] at Fo2
  have F2 := hl_fn (k := k + 3) F S hps hN hc (Fo2.mono (by omega)) mo Fo.kp bo Fg mgg kg bg
  intro f n' g' e
  unfold put at e
  split at e
  · rename_i e1
    subst e1
    cases e
    exact ⟨fa, fd, ps, F2, hm, F.kp, hb⟩
  · obtain ⟨fa, fd, ps, F3, q⟩ := G f n' g' e
    exact ⟨fa, fd, ps, F3.mono (by omega), q⟩
end
/-- a def's run that keeps its first parameter -/
theorem rs_runO {X : Str → Prop} {Γ : FT} {fuel : Nat} {f : MF} {d : D} {ds : List D} {K : Rv → Prop} (h : FS X (fun _ => False) (fun _ => False) K (evSs Γ fuel f.body (startO f.slots d ds)) fun _ => K (.fr false .none)) : RS X (runO Γ fuel f (d :: ds)) K := by
  show RS X (endF (evSs Γ fuel f.body (startO f.slots d ds))) K
  cases e : evSs Γ fuel f.body (startO f.slots d ds) with
  | bad => rw [e, fs_bad] at h; exact h.elim
  | err x => rw [e, fs_err] at h; exact .err h
  | next x => rw [e, fs_next] at h; exact .ok h
  | ret x => rw [e, fs_ret] at h; exact .ok h
  | brk x => rw [e, fs_brk] at h; exact h.elim
  | cnt x => rw [e, fs_cnt] at h; exact h.elim
end En
set_option Elab.async false
set_option linter.all false
set_option maxRecDepth 100000
set_option maxHeartbeats 4000000
namespace En
open PySem L2

namespace M
def two7 : MF := ⟨6, (.cons (.set 2 (.sl (.v 0) (.so (.ki 3)) (.so (.ki 11))) false) (.cons (.set 3 (.bin .Mod (.call "_law_cell_at" (.cons (.v 0) (.cons (.ki 2) .nil))) (.bin .Add (.bi "len" (.cons (.v 2) .nil)) (.ki 1))) false) (.cons (.set 4 (.call "_law_shorts" (.cons (.sl (.v 2) .no (.so (.v 3))) (.cons (.v 1) .nil))) false) (.cons (.set 5 (.call "_law_shorts" (.cons (.sl (.v 2) (.so (.v 3)) .no) (.cons (.v 1) .nil))) false) (.cons (.ife (.cmp .Eq (.bin .Mod (.bin .FloorDiv (.call "_law_cell_at" (.cons (.v 0) (.cons (.ki 2) .nil))) (.ki 9)) (.ki 8)) (.ki 3)) (.cons (.set 4 (.call "_law_shorts" (.cons (.call "_law_stream" (.cons (.call "_law_cell_at" (.cons (.v 0) (.cons (.ki 3) .nil))) (.cons (.ki 12) .nil))) (.cons (.v 1) .nil))) false) (.cons (.set 5 (.call "_law_shorts" (.cons (.call "_law_stream" (.cons (.call "_law_cell_at" (.cons (.v 0) (.cons (.ki 4) .nil))) (.cons (.ki 12) .nil))) (.cons (.v 1) .nil))) false) .nil)) .nil) (.cons (.ife (.cmp .Eq (.bin .Mod (.bin .FloorDiv (.call "_law_cell_at" (.cons (.v 0) (.cons (.ki 2) .nil))) (.ki 72)) (.ki 5)) (.ki 1)) (.cons (.set 5 (.rvl (.v 4)) false) .nil) .nil) (.cons (.ret (.lst (.cons (.v 4) (.cons (.v 5) .nil)))) .nil)))))))⟩
theorem two7_ok {Γ : FT} {n : Nat} {X : Str → Prop} {K : Rv → Prop} (hc : CellAt Γ) (hs : ShortsAt Γ) (hst : StreamAt Γ) (ns : List Int) (hns : ns.length ≤ 63) (m : Nat) (hm : m ≤ 1000) (q : ∀ a b : List Tx, a.length ≤ 200 → b.length ≤ 200 → (∀ s ∈ a, Row m s) → (∀ s ∈ b, Row m s) → K (.ow false (.list [.list (a.map tx), .list (b.map tx)]))) : RS X (runF Γ n two7 [.list (ns.map .int), .int (m : Int)]) K := by
  obtain ⟨Γ1, n1, e1⟩ := hc
  obtain ⟨Γ2, n2, hs2, e2⟩ := hs
  obtain ⟨Γ3, n3, e3⟩ := hst
  have cl : ∀ k : Int, 0 ≤ k → runF Γ1 n1 cell [.list (ns.map .int), .int k] = .ok (.fr false (.int (cellI ns k))) := fun k h => cell_eq ns k h
  refine rs_run ?_
  have hcl := cut_le ns (some 3) (some 11)
  simp [-fs_if, two7, startE, e_call e1, e_call e2, cl, cut_map, En.mod_int (i := cellI ns 2) (j := ((cutL ns (some 3) (some 11)).length : Int) + 1) (by omega)]
  generalize cutL ns (some 3) (some 11) = cs at *
  obtain ⟨k, hk⟩ : ∃ k : Nat, (k : Int) = cellI ns 2 % ((cs.length : Int) + 1) := ⟨(cellI ns 2 % ((cs.length : Int) + 1)).toNat, by
    have := Int.emod_nonneg (cellI ns 2) (show ((cs.length : Int) + 1) ≠ 0 by omega)
    omega⟩
  rw [← hk]
  have c1 := cut_le cs none (some (k : Int))
  have c2 := cut_le cs (some (k : Int)) none
  refine shorts_ok (Γ := Γ2) hs2 (cutL cs none (some (k : Int))) m hm (by omega) fun a hal ha => ?_
  simp [-fs_if, e_call e2, cut_map]
  refine shorts_ok (Γ := Γ2) hs2 (cutL cs (some (k : Int)) none) m hm (by omega) fun b hbl hb => ?_
  simp [-fs_if, e_call e1, cl, En.mod_int, En.div_int]
  obtain ⟨G, hG⟩ : ∃ G : List Sl → Prop, ∀ e, G e = ∃ a b : List Tx, a.length ≤ 63 ∧ b.length ≤ 63 ∧ (∀ s ∈ a, Row m s) ∧ (∀ s ∈ b, Row m s) ∧ e = [.fr true (.list (ns.map .int)), .fr false (.int (m : Int)), .fr true (.list (cs.map .int)), .fr false (.int (k : Int)), .fr false (.list (a.map tx)), .fr false (.list (b.map tx))] := ⟨_, fun _ => rfl⟩
  refine fs_cut G (fun _ => ?_) (fun _ => ?_) (fun e h => ?_)
  · simp [e_call e3, e_call e1, cl]
    refine stream_okN (Γ := Γ3) _ 12 (by omega) fun l hl' _ => ?_
    simp [e_call e2]
    refine shorts_ok (Γ := Γ2) hs2 l m hm (by omega) fun a2 hal2 ha2 => ?_
    simp [e_call e3, e_call e1, cl]
    refine stream_okN (Γ := Γ3) _ 12 (by omega) fun l2 hl2 _ => ?_
    simp [e_call e2]
    refine shorts_ok (Γ := Γ2) hs2 l2 m hm (by omega) fun b2 hbl2 hb2 => ?_
    simp
    rw [hG]
    exact ⟨a2, b2, by omega, by omega, ha2, hb2, rfl⟩
  · simp
    rw [hG]
    exact ⟨a, b, by omega, by omega, ha, hb, rfl⟩
  rw [hG] at h
  obtain ⟨a, b, hal, hbl, ha, hb, rfl⟩ := h
  simp [-fs_if, e_call e1, cl, En.div_int, En.mod_int]
  refine fs_cut G (fun _ => ?_) (fun _ => ?_) (fun e h => ?_)
  · simp
    rw [hG, ← List.map_reverse]
    exact ⟨a, a.reverse, hal, by simp; omega, ha, fun s h => ha s (List.mem_reverse.mp h), rfl⟩
  · simp
    rw [hG]
    exact ⟨a, b, hal, hbl, ha, hb, rfl⟩
  rw [hG] at h
  obtain ⟨a, b, hal, hbl, ha, hb, rfl⟩ := h
  simp [sz 2 (by decide)]
  exact q a b (by omega) (by omega) ha hb
def heapMeet : MF := ⟨7, (.cons (.set 2 (.lst .nil) true) (.cons (.set 3 (.call "heap_apart" (.cons (.v 1) .nil)) false) (.cons (.for_ (.n 4) (.e (.call "heap_apart" (.cons (.v 0) .nil))) (.cons (.for_ (.n 5) (.e (.v 3)) (.cons (.set 6 (.call "row_meet" (.cons (.v 4) (.cons (.v 5) .nil))) false) (.cons (.ife (.cmp .IsNot (.v 6) .kn) (.cons (.app 2 (.v 6)) .nil) .nil) .nil))) .nil)) (.cons (.reto 2) .nil))))⟩
theorem heapMeet_ok {Γ : FT} {n : Nat} {X : Str → Prop} {K : Rv → Prop} (ha : HeapApartAt Γ) (hm : MeetAt Γ) {w : Nat} {ps : List Nat} (hw : w ≤ 900) (hps : ps.length ≤ 8) (one other : List Tx) (hf1 : one.length ≤ 1000) (hf2 : other.length ≤ 1000) (hr1 : ∀ r ∈ one, Row w r) (hr2 : ∀ r ∈ other, Row w r)
    (ht1 : ∀ r ∈ one, ∀ i x : Nat, r[i]? = some x → x ≠ 45 → i ∈ ps) (ht2 : ∀ r ∈ other, ∀ i x : Nat, r[i]? = some x → x ≠ 45 → i ∈ ps) (q : ∀ out : List Tx, Pcs w ps (fun l => (∃ r ∈ one, Hold r l) ∧ ∃ r ∈ other, Hold r l) out → K (.ow false (.list (out.map tx)))) : RS X (runF Γ n heapMeet [.list (one.map tx), .list (other.map tx)]) K := by
  obtain ⟨Γ1, n1, hb, e1⟩ := ha
  obtain ⟨Γ2, n2, e2⟩ := hm
  have p8 : 2 ^ ps.length ≤ 2 ^ 8 := Nat.pow_le_pow_right (by decide) hps
  refine rs_run ?_
  simp [heapMeet, startE, e_call e1]
  refine heapApart_ok (Γ := Γ1) hb hw hps other hf2 hr2 ht2 fun m2 o2 P2 => ?_
  simp [e_call e1]
  refine heapApart_ok (Γ := Γ1) hb hw hps one hf1 hr1 ht1 fun m1 o1 P1 => ?_
  simp
  obtain ⟨I, hI⟩ : ∃ I : Nat → List Sl → Prop, ∀ i e, I i e = ∃ (s4 s5 s6 : Sl) (out : List Tx) (L : D), e = [.fr true (.list (one.map tx)), .fr true (.list (other.map tx)), .ow false L, .fr false (.list (o2.map tx)), s4, s5, s6] ∧ L = .list (out.map tx) ∧ Pcs w ps (fun l => (∃ r ∈ o1.take i, Hold r l) ∧ ∃ r ∈ other, Hold r l) out := ⟨_, fun _ _ => rfl⟩
  refine fs_for I ?_ (fun i d e hd h => ?_) (fun e h => ?_)
  · rw [hI]
    exact ⟨_, _, _, [], _, rfl, rfl, ⟨fun r h => (nomatch h), fun r h => (nomatch h), .nil, fun l _ => by simp⟩⟩
  · rw [hI] at h
    obtain ⟨s4, s5, s6, out, L, rfl, rfl, P⟩ := h
    obtain ⟨hi, rfl⟩ := map_at hd
    have g := take_get (List.getElem?_eq_getElem hi)
    have hp := P1.row _ (List.getElem_mem hi)
    have htp := P1.tell _ (List.getElem_mem hi)
    have hap : ∀ r ∈ o1.take i, Cl o1[i] r := fun r hr' => by
      obtain ⟨k, hk, rfl⟩ := List.getElem_of_mem hr'
      rw [List.length_take] at hk
      rw [List.getElem_take]
      exact List.pairwise_iff_getElem.mp P1.apart k i (by omega) hi (by omega)
    generalize o1[i] = p at *
    simp
    obtain ⟨J, hJ⟩ : ∃ J : Nat → List Sl → Prop, ∀ j e, J j e = ∃ (s5 s6 : Sl) (out : List Tx) (L : D), e = [.fr true (.list (one.map tx)), .fr true (.list (other.map tx)), .ow false L, .fr false (.list (o2.map tx)), .fr false (tx p), s5, s6] ∧ L = .list (out.map tx) ∧ Pcs w ps (fun l => ((∃ r ∈ o1.take i, Hold r l) ∧ ∃ r ∈ other, Hold r l) ∨ ∃ o ∈ o2.take j, Hold p l ∧ Hold o l) out := ⟨_, fun _ _ => rfl⟩
    refine fs_for J ?_ (fun j d e hd h => ?_) (fun e h => ?_)
    · rw [hJ]
      exact ⟨_, _, out, _, rfl, rfl, P.iff fun l _ => by simp⟩
    · rw [hJ] at h
      obtain ⟨s5, s6, out, L, rfl, rfl, P⟩ := h
      obtain ⟨hj, rfl⟩ := map_at hd
      have gj := take_get (List.getElem?_eq_getElem hj)
      have ho := P2.row _ (List.getElem_mem hj)
      have hto := P2.tell _ (List.getElem_mem hj)
      have hao : ∀ r ∈ o2.take j, Cl o2[j] r := fun r hr' => by
        obtain ⟨k, hk, rfl⟩ := List.getElem_of_mem hr'
        rw [List.length_take] at hk
        rw [List.getElem_take]
        exact List.pairwise_iff_getElem.mp P2.apart k j (by omega) hj (by omega)
      generalize o2[j] = o at *
      have fo := P.few
      simp [e_call e2]
      refine meetR_ok (Γ := Γ2) p o (by rw [hp.1]; omega) (fun hc => ?_) (fun hc => ?_)
      · simp
        rw [hJ]
        refine ⟨_, _, out, _, rfl, rfl, P.iff fun l hl => ?_⟩
        rw [gj]
        constructor
        · rintro (h | ⟨a, ha, h⟩)
          · exact .inl h
          · exact .inr ⟨a, List.mem_append_left _ ha, h⟩
        · rintro (h | ⟨a, ha, h1, h2⟩)
          · exact .inl h
          · rcases List.mem_append.mp ha with ha | ha
            · exact .inr ⟨a, ha, h1, h2⟩
            · rw [List.mem_singleton.mp ha] at h2
              exact absurd h2 (cl_no hp ho hl hc h1)
      · have fs : out.length < sizeLine := slt (by omega)
        simp [fs]
        rw [hJ]
        refine ⟨_, _, out ++ [mt p o], _, rfl, by simp, ?_⟩
        refine pcs_snoc P (mt_row hp ho) (fun k x e n => ?_) (fun l hl h => ?_) fun l hl => ?_
        · rcases mt_tell hp ho k x e n with ⟨y, e', n'⟩ | ⟨y, e', n'⟩
          · exact htp k y e' n'
          · exact hto k y e' n'
        · obtain ⟨h1, h2⟩ := (mt_iff hp ho hc).mp h
          rintro (⟨⟨a, ha, h3⟩, _⟩ | ⟨a, ha, _, h3⟩)
          · exact cl_no hp (P1.row a (List.mem_of_mem_take ha)) hl (hap a ha) h1 h3
          · exact cl_no ho (P2.row a (List.mem_of_mem_take ha)) hl (hao a ha) h2 h3
        · rw [gj, mt_iff hp ho hc]
          constructor
          · rintro (h | ⟨a, ha, h1, h2⟩)
            · exact .inl (.inl h)
            · rcases List.mem_append.mp ha with ha | ha
              · exact .inl (.inr ⟨a, ha, h1, h2⟩)
              · rw [List.mem_singleton.mp ha] at h2
                exact .inr ⟨h1, h2⟩
          · rintro ((h | ⟨a, ha, h1, h2⟩) | ⟨h1, h2⟩)
            · exact .inl h
            · exact .inr ⟨a, List.mem_append_left _ ha, h1, h2⟩
            · exact .inr ⟨o, List.mem_append_right _ (List.mem_singleton.mpr rfl), h1, h2⟩
    · rw [hJ] at h
      obtain ⟨s5, s6, out, L, rfl, rfl, P⟩ := h
      rw [List.length_map, List.take_of_length_le (Nat.le_refl _)] at P
      try simp
      rw [hI]
      refine ⟨_, _, _, out, _, rfl, rfl, P.iff fun l hl => ?_⟩
      rw [g]
      constructor
      · rintro (⟨⟨a, ha, h1⟩, h2⟩ | ⟨o, ho, h1, h2⟩)
        · exact ⟨⟨a, List.mem_append_left _ ha, h1⟩, h2⟩
        · exact ⟨⟨p, List.mem_append_right _ (List.mem_singleton.mpr rfl), h1⟩, (P2.cov l hl).mp ⟨o, ho, h2⟩⟩
      · rintro ⟨⟨a, ha, h1⟩, h2⟩
        rcases List.mem_append.mp ha with ha | ha
        · exact .inl ⟨⟨a, ha, h1⟩, h2⟩
        · rw [List.mem_singleton.mp ha] at h1
          obtain ⟨o, ho, h3⟩ := (P2.cov l hl).mpr h2
          exact .inr ⟨o, ho, h1, h3⟩
  · rw [hI] at h
    obtain ⟨s4, s5, s6, out, L, rfl, rfl, P⟩ := h
    rw [List.length_map, List.take_of_length_le (Nat.le_refl _)] at P
    simp
    exact q out (P.iff fun l hl => by rw [P1.cov l hl])
/-- pieces_beyond, the pieces its own -/
def beyondO : MF := ⟨5, (.cons (.for_ (.n 2) (.e (.v 1)) (.cons (.set 3 (.lst .nil) true) (.frz 0 (.cons (.for_ (.n 4) (.e (.v 0)) (.cons (.ext 3 (.call "row_less" (.cons (.v 4) (.cons (.v 2) .nil)))) .nil)) (.cons (.mov 0 3) .nil))))) (.cons (.reto 0) .nil))⟩
theorem beyondO_ok {Γ : FT} {n : Nat} {X : Str → Prop} {K : Rv → Prop} (hl : LessAt Γ) {w : Nat} {ps : List Nat} {S : Tx → Prop} (hw : w ≤ 900) (hps : ps.length ≤ 8) (rs rows : List Tx) (P : Pcs w ps S rs) (hrow : ∀ r ∈ rows, Row w r)
    (htell : ∀ r ∈ rows, ∀ i x : Nat, r[i]? = some x → x ≠ 45 → i ∈ ps) (q : ∀ out : List Tx, Pcs w ps (fun l => S l ∧ ∀ r ∈ rows, ¬ Hold r l) out → K (.ow false (.list (out.map tx)))) : RS X (runO Γ n beyondO [.list (rs.map tx), .list (rows.map tx)]) K := by
  obtain ⟨Γ', n', hm, e⟩ := hl
  have p8 : 2 ^ ps.length ≤ 2 ^ 8 := Nat.pow_le_pow_right (by decide) hps
  refine rs_runO ?_
  simp [beyondO, startE, startO]
  obtain ⟨I, hI⟩ : ∃ I : Nat → List Sl → Prop, ∀ i e, I i e = ∃ (out : List Tx) (L : D) (s2 s3 s4 : Sl), e = [.ow false L, .fr true (.list (rows.map tx)), s2, s3, s4] ∧ L = .list (out.map tx) ∧ Pcs w ps (fun l => S l ∧ ∀ r ∈ rows.take i, ¬ Hold r l) out := ⟨_, fun _ _ => rfl⟩
  refine fs_for I ?_ (fun i d e' hd h => ?_) (fun e' h => ?_)
  · rw [hI]
    exact ⟨rs, _, _, _, _, rfl, rfl, P.iff fun l _ => by simp⟩
  · rw [hI] at h
    obtain ⟨out, L, s2, s3, s4, rfl, rfl, hP⟩ := h
    obtain ⟨hi, rfl⟩ := map_at hd
    have g := take_get (List.getElem?_eq_getElem hi)
    have hr := hrow _ (List.getElem_mem hi)
    have htr := htell _ (List.getElem_mem hi)
    generalize rows[i] = row at *
    have fo := hP.few
    simp
    obtain ⟨J, hJ⟩ : ∃ J : Nat → List Sl → Prop, ∀ j e, J j e = ∃ (s4 : Sl) (lo : List Tx) (L : D), e = [.fr false (.list (out.map tx)), .fr true (.list (rows.map tx)), .fr true (tx row), .ow false L, s4] ∧ L = .list (lo.map tx) ∧ Pcs w ps (fun l => ∃ r ∈ out.take j, Hold r l ∧ ¬ Hold row l) lo ∧ ∀ o ∈ lo, ∃ r ∈ out.take j, Hold r o := ⟨_, fun _ _ => rfl⟩
    refine fs_for J ?_ (fun j d e' hd h => ?_) (fun e' h => ?_)
    · rw [hJ]
      exact ⟨_, [], _, rfl, rfl, pcs_nil (row := row), by simp⟩
    · rw [hJ] at h
      obtain ⟨s4, lo, L, rfl, rfl, hO, hin⟩ := h
      obtain ⟨hj, rfl⟩ := map_at hd
      have gj := take_get (List.getElem?_eq_getElem hj)
      have hmem := List.getElem_mem hj
      have hap : ∀ r ∈ out.take j, Cl out[j] r := fun r hr' => by
        obtain ⟨k, hk, rfl⟩ := List.getElem_of_mem hr'
        rw [List.length_take] at hk
        rw [List.getElem_take]
        exact List.pairwise_iff_getElem.mp hP.apart k j (by omega) hj (by omega)
      have hp := hP.row _ hmem
      have htp := hP.tell _ hmem
      generalize out[j] = p at *
      have fl := hO.few
      simp [e_call e]
      have fin : ∀ (fs : List Tx) (z : Int), Apart w p row fs z → lo.length + fs.length ≤ sizeLine ∧ J (j + 1) [.fr false (.list (out.map tx)), .fr true (.list (rows.map tx)), .fr true (tx row), .ow false (.list (lo.map tx ++ fs.map tx)), .fr false (tx p)] := fun fs z A => by
        refine ⟨sz _ (by have := A.few; omega), ?_⟩
        rw [hJ]
        obtain ⟨a1, a2⟩ := pcs_step hO hin hr htr (fun r hr' => hP.row r (List.mem_of_mem_take hr')) hp htp hap A
        exact ⟨_, lo ++ fs, _, rfl, by simp, by rw [gj]; exact a1, by rw [gj]; exact a2⟩
      refine less_ok (Γ := Γ') hm p row hp hr (by omega) (fun _ fs A => ?_) (fun _ fs A => ?_)
      · simp
        exact fin fs _ A
      · simp
        exact fin fs _ A
    · rw [hJ] at h
      obtain ⟨s4, lo, L, rfl, rfl, hO, hin⟩ := h
      rw [List.length_map, List.take_of_length_le (Nat.le_refl _)] at hO
      simp
      rw [hI]
      refine ⟨lo, _, _, _, _, rfl, rfl, hO.iff fun l hl => ?_⟩
      rw [g]
      constructor
      · rintro ⟨r, hr', h1, h2⟩
        obtain ⟨z1, z2⟩ := (hP.cov l hl).mp ⟨r, hr', h1⟩
        refine ⟨z1, fun r' hr'' => ?_⟩
        rcases List.mem_append.mp hr'' with h | h
        · exact z2 r' h
        · rw [List.mem_singleton.mp h]; exact h2
      · rintro ⟨z1, z2⟩
        obtain ⟨r, hr', h1⟩ := (hP.cov l hl).mpr ⟨z1, fun r' hr'' => z2 r' (List.mem_append_left _ hr'')⟩
        exact ⟨r, hr', h1, z2 row (List.mem_append_right _ (List.mem_singleton.mpr rfl))⟩
  · rw [hI] at h
    obtain ⟨out, L, s2, s3, s4, rfl, rfl, hP⟩ := h
    rw [List.length_map, List.take_of_length_le (Nat.le_refl _)] at hP
    simp
    exact q out hP
end M
end En
set_option Elab.async false
set_option linter.all false
set_option maxRecDepth 100000
set_option maxHeartbeats 4000000
namespace En
open PySem L2

/-! ### rows by fields: parts, each a name and a thing -/
@[simp] theorem e_dK0 {Γ : FT} {env : List Sl} : evE Γ env .dK0 = .ok (.ow false (.dict [])) := by rw [evE]
/-- a thing: a text, or none -/
def Th (d : D) : Prop := (∃ r, d = tx r ∧ r.length ≤ 1000 ∧ Sm r) ∨ (NoTx d ∧ Nc 1 d)
theorem Th.nc {d : D} (h : Th d) : Nc 1 d := by
  rcases h with ⟨r, rfl, _, h⟩ | ⟨_, h⟩
  · exact ⟨(nc_sm h).1, Nat.le_trans (nc_sm h).2 (by decide)⟩
  · exact h
abbrev Pt := Tx × D
def pt (p : Pt) : D := .tuple [tx p.1, p.2]
theorem nc_pt {p : Pt} (h1 : Sm p.1) (h2 : Th p.2) : Nc 2 (pt p) := nc_tup (k := 1) fun d hd => by
  simp only [List.mem_cons, List.not_mem_nil, or_false] at hd
  rcases hd with rfl | rfl
  · exact ⟨(nc_sm h1).1, Nat.le_trans (nc_sm h1).2 (by decide)⟩
  · exact h2.nc
def rowOf (d : D) (z : Nat) : Option Tx := match d with
  | .str s => if s.cps.toList.length = z ∧ ∀ c ∈ s.cps.toList, c ∈ [48, 49, 45] then some s.cps.toList else none
  | _ => none
theorem rowOf_tx (r : Tx) (z : Nat) : rowOf (tx r) z = if r.length = z ∧ ∀ c ∈ r, c ∈ [48, 49, 45] then some r else none := by
  show (if _ then _ else _) = _
  simp
theorem rowOf_no {d : D} {z : Nat} (h : NoTx d) : rowOf d z = none := by
  cases d <;> first | rfl | (exfalso; simp [NoTx, semIsi] at h)
def sizeOf (ps : List Fd) (x : Tx) : Option Nat := (ps.find? fun p => decide (p.1 = x)).map (·.2)
theorem size_at {ps : List Fd} (hn : (ps.map (·.1)).Nodup) {k : Nat} (hk : k < ps.length) : sizeOf ps ps[k].1 = some ps[k].2 := by
  unfold sizeOf
  have : ps.find? (fun p => decide (p.1 = ps[k].1)) = some ps[k] := by
    rw [List.find?_eq_some_iff_getElem]
    refine ⟨by simp, k, hk, rfl, fun j hj => ?_⟩
    simp only [Bool.not_eq_true', decide_eq_false_iff_not]
    intro e
    have h1 : (ps.map (·.1))[j]? = some ps[k].1 := by rw [List.getElem?_map, List.getElem?_eq_getElem (by omega), Option.map_some, e]
    have h2 : (ps.map (·.1))[k]? = some ps[k].1 := by rw [List.getElem?_map, List.getElem?_eq_getElem hk]; rfl
    have := (List.getElem?_inj (by simp; omega) hn).mp (h1.trans h2.symm)
    omega
  rw [this]
  rfl
theorem size_no {ps : List Fd} {x : Tx} (h : x ∉ ps.map (·.1)) : sizeOf ps x = none := by
  unfold sizeOf
  rw [Option.map_eq_none_iff, List.find?_eq_none]
  intro p hp
  simp only [decide_eq_true_eq]
  rintro rfl
  exact h (List.mem_map_of_mem hp)
abbrev Sn := List (Tx × Tx)
def stepP (ps : List Fd) (seen : Sn) (p : Pt) : Except Str Sn := match sizeOf ps p.1 with
  | none => .error "NoField"
  | some z => if p.1 ∈ seen.map (·.1) then .error "Twice" else match rowOf p.2 z with
    | some r => .ok (seen ++ [(p.1, r)])
    | none => .error "Misfit"
def procP (ps : List Fd) (l : List Pt) : Except Str Sn := l.foldlM (stepP ps) []
theorem proc_app {ps : List Fd} {a b : List Pt} {s : Sn} (h : procP ps a = .ok s) : procP ps (a ++ b) = b.foldlM (stepP ps) s := by
  unfold procP at h ⊢
  rw [List.foldlM_append, h]
  rfl
theorem proc_step {ps : List Fd} {l : List Pt} {i : Nat} (hi : i < l.length) {s : Sn} (h : procP ps (l.take i) = .ok s) : (∀ s', stepP ps s l[i] = .ok s' → procP ps (l.take (i + 1)) = .ok s') ∧ ∀ x, stepP ps s l[i] = .error x → procP ps l = .error x := by
  constructor
  · intro s' e
    rw [take_get (List.getElem?_eq_getElem hi), proc_app h]
    simp only [List.foldlM_cons, List.foldlM_nil, e]
    rfl
  · intro x e
    have : l = l.take i ++ l[i] :: l.drop (i + 1) := by rw [← List.drop_eq_getElem_cons hi, List.take_append_drop]
    rw [this, proc_app h, List.foldlM_cons, e]
    rfl
def lkS (s : Sn) (x : Tx) : Option Tx := (s.find? fun p => decide (p.1 = x)).map (·.2)
def rowF (ps : List Fd) (s : Sn) : List Tx := ps.map fun p => (lkS s p.1).getD (List.replicate p.2 45)
/-- each sign told has its size -/
def SnOk (ps : List Fd) (s : Sn) : Prop := ∀ p ∈ s, ∃ z, sizeOf ps p.1 = some z ∧ p.2.length = z ∧ Sm p.2
def ent (p : Tx × Tx) : D × D := (tx p.1, tx p.2)
theorem has_ent (s : Sn) (x : Tx) : hasS (s.map ent) ⟨x.toArray⟩ = decide (x ∈ s.map (·.1)) := by
  induction s with
  | nil => rfl
  | cons p s ih =>
    unfold hasS at ih ⊢
    simp only [List.map_cons, List.any_cons, ih]
    have : isK (ent p).1 ⟨x.toArray⟩ = decide (p.1 = x) := by show decide ((⟨p.1.toArray⟩ : Str) = ⟨x.toArray⟩) = _; simp
    rw [this, Bool.eq_iff_iff]
    simp only [Bool.or_eq_true, decide_eq_true_eq, List.mem_cons]
    exact ⟨fun h => h.imp Eq.symm id, fun h => h.imp Eq.symm id⟩
theorem get_ent (s : Sn) (x : Tx) : getS (s.map ent) ⟨x.toArray⟩ = (lkS s x).map tx := by
  induction s with
  | nil => rfl
  | cons p s ih =>
    have : isK (ent p).1 ⟨x.toArray⟩ = decide (p.1 = x) := by show decide ((⟨p.1.toArray⟩ : Str) = ⟨x.toArray⟩) = _; simp
    rw [List.map_cons, getS, this, ih]
    unfold lkS
    rw [List.find?_cons]
    by_cases h : p.1 = x
    · simp [h, ent]
    · simp [h]
theorem in_ent (s : Sn) (x : Tx) : inO (tx x) (.dict (s.map ent)) = some (decide (x ∈ s.map (·.1))) := by
  show some (hasS (s.map ent) ⟨x.toArray⟩) = _
  rw [has_ent]
theorem dput_ent {env : List Sl} {m m' mk' : Bool} {s : Sn} {i : Nat} {x r : Tx} (h : x ∉ s.map (·.1)) (hl : s.length < 16777216) : dputR (some (.ow m (.dict (s.map ent)))) i env (.ok (.fr m' (tx r))) (.ok (.fr mk' (tx x))) = .next (env.set i (.ow m (.dict ((s ++ [(x, r)]).map ent)))) := by
  have := dputR_tx (env := env) (m := m) (m' := m') (mk' := mk') (es := s.map ent) (d := tx r) (i := i) (key := ⟨x.toArray⟩) (by simp) (by rw [has_ent]; simpa using h) (slt (by simpa using hl))
  rw [List.map_append]
  exact this
theorem dgt_ent {Γ : FT} {env : List Sl} {i : Nat} {k d : ME} {mk' : Bool} {s : Sn} {x y : Tx} (h : env[i]? = some (.ow false (.dict (s.map ent)))) (hk : evE Γ env k = .ok (.fr mk' (tx x))) (hd : evE Γ env d = .ok (.fr false (tx y))) : evE Γ env (.dgt i k d) = .ok (.fr false (tx ((lkS s x).getD y))) := by
  rw [e_dgt]
  unfold getSl
  rw [h]
  show ((evE Γ env k).bind fun y => (evE Γ env d).bind fun z => _) = _
  rw [hk, hd]
  show (match getS (s.map ent) ⟨x.toArray⟩ with
      | some v => R.ok (mk false false v)
      | none => if isBo (Rv.fr false (tx y)) then R.bad else R.ok (Rv.fr false (tx y))) = _
  rw [get_ent]
  cases lkS s x with
  | none => rfl
  | some v => rfl
theorem lix_tx {L : List Tx} {k : Nat} (hn : L.Nodup) (hk : k < L.length) : semLix (.list (L.map tx)) (tx L[k]) = some (k : Int) := by
  have hs : (sc (tx L[k]) && (L.map tx).all sc) = true := by
    simp only [Bool.and_eq_true, List.all_eq_true]
    refine ⟨rfl, fun d hd => ?_⟩
    obtain ⟨r, _, rfl⟩ := List.mem_map.mp hd
    rfl
  have hf : ((L.map tx).findIdx? fun z => PyData.eqv z (tx L[k])) = some k := by
    rw [List.findIdx?_eq_some_iff_getElem]
    refine ⟨by simpa using hk, by simp [eqv_tx], fun j hj => ?_⟩
    simp only [List.getElem_map, eqv_tx, decide_eq_true_eq]
    intro e
    have := (List.getElem_inj hn).mp e
    omega
  show (if (sc (tx L[k]) && (L.map tx).all sc) = true then _ else _) = _
  rw [if_pos hs, hf]
  rfl
theorem wid_le (ps : List Fd) (k : Nat) : wid (ps.take k) ≤ wid ps := by
  have h : ps = ps.take k ++ ps.drop k := (List.take_append_drop k ps).symm
  have : wid ps = wid (ps.take k) + wid (ps.drop k) := by
    conv => lhs; rw [h]
    unfold wid
    rw [List.map_append, List.sum_append]
  omega
theorem mem_names {ps : List Fd} {x : Tx} (h : x ∈ ps.map (·.1)) : ∃ (k : Nat) (hk : k < ps.length), ps[k].1 = x := by
  obtain ⟨p, hp, rfl⟩ := List.mem_map.mp h
  obtain ⟨k, hk, rfl⟩ := List.getElem_of_mem hp
  exact ⟨k, hk, rfl⟩
theorem seen_ok {ps : List Fd} {s s' : Sn} {p : Pt} (h : SnOk ps s) (e : stepP ps s p = .ok s') : SnOk ps s' ∧ s'.length = s.length + 1 := by
  unfold stepP at e
  split at e
  · cases e
  · rename_i z hz
    split at e
    · cases e
    · split at e
      · rename_i r hr
        cases e
        refine ⟨fun q hq => ?_, by simp⟩
        rcases List.mem_append.mp hq with hq | hq
        · exact h q hq
        · rw [List.mem_singleton.mp hq]
          refine ⟨z, hz, ?_⟩
          show r.length = z ∧ Sm r
          unfold rowOf at hr
          split at hr
          · split at hr
            · rename_i hc
              cases hr
              exact ⟨hc.1, fun c h => by
                have := hc.2 c h
                simp only [List.mem_cons, List.not_mem_nil, or_false] at this
                omega⟩
            · cases hr
          · cases hr
      · cases e
theorem proc_ok {ps : List Fd} : ∀ (l : List Pt) {s : Sn}, procP ps l = .ok s → SnOk ps s ∧ s.length = l.length := by
  intro l s h
  have gen : ∀ (l : List Pt) (s0 s : Sn), SnOk ps s0 → l.foldlM (stepP ps) s0 = .ok s → SnOk ps s ∧ s.length = s0.length + l.length := by
    intro l
    induction l with
    | nil => intro s0 s h0 h; cases h; exact ⟨h0, rfl⟩
    | cons p l ih =>
      intro s0 s h0 h
      rw [List.foldlM_cons] at h
      cases e : stepP ps s0 p with
      | error x => rw [e] at h; cases h
      | ok s1 =>
        rw [e] at h
        obtain ⟨a, b⟩ := seen_ok h0 e
        obtain ⟨c, d⟩ := ih s1 s a h
        exact ⟨c, by rw [List.length_cons]; omega⟩
  obtain ⟨a, b⟩ := gen l [] s (fun p hp => nomatch hp) h
  exact ⟨a, by simpa using b⟩
/-- a field's signs -/
theorem lk_len {ps : List Fd} {s : Sn} (hs : SnOk ps s) (hn : (ps.map (·.1)).Nodup) {k : Nat} (hk : k < ps.length) : ((lkS s ps[k].1).getD (List.replicate ps[k].2 45)).length = ps[k].2 := by
  unfold lkS
  cases e : s.find? fun p => decide (p.1 = ps[k].1) with
  | none => simp
  | some p =>
    have h1 := List.mem_of_find?_eq_some e
    have h2 := List.find?_some e
    simp only [decide_eq_true_eq] at h2
    obtain ⟨z, hz, hl, _⟩ := hs p h1
    rw [h2, size_at hn hk] at hz
    cases hz
    simpa using hl
theorem rowF_len {ps : List Fd} {s : Sn} (hs : SnOk ps s) (hn : (ps.map (·.1)).Nodup) : (rowF ps s).map List.length = ps.map (·.2) := by
  unfold rowF
  rw [List.map_map]
  apply List.ext_getElem (by simp)
  intro k h1 h2
  simp only [List.getElem_map, Function.comp]
  exact lk_len hs hn (by simpa using h1)
theorem rowF_sm {ps : List Fd} {s : Sn} (hs : SnOk ps s) : Sm (rowF ps s).flatten := fun c hc => by
  obtain ⟨r, hr, hcr⟩ := List.mem_flatten.mp hc
  unfold rowF at hr
  obtain ⟨p, _, rfl⟩ := List.mem_map.mp hr
  unfold lkS at hcr
  cases e : s.find? fun q => decide (q.1 = p.1) with
  | none =>
    rw [e] at hcr
    have : c = 45 := List.eq_of_mem_replicate hcr
    omega
  | some q =>
    rw [e] at hcr
    obtain ⟨_, _, _, h⟩ := hs q (List.mem_of_find?_eq_some e)
    exact h c hcr
theorem proc_err {ps : List Fd} {l : List Pt} {x : Str} (h : procP ps l = .error x) : x = "NoField" ∨ x = "Twice" ∨ x = "Misfit" := by
  have gen : ∀ (l : List Pt) (s0 : Sn), l.foldlM (stepP ps) s0 = .error x → x = "NoField" ∨ x = "Twice" ∨ x = "Misfit" := by
    intro l
    induction l with
    | nil => intro s0 h; cases h
    | cons p l ih =>
      intro s0 h
      rw [List.foldlM_cons] at h
      cases e : stepP ps s0 p with
      | ok s1 => rw [e] at h; exact ih s1 h
      | error y =>
        rw [e] at h
        cases h
        unfold stepP at e
        split at e
        · cases e; exact .inl rfl
        · split at e
          · cases e; exact .inr (.inl rfl)
          · split at e
            · cases e
            · cases e; exact .inr (.inr rfl)
  exact gen l [] h
namespace M
theorem isRow_no {Γ : FT} {n : Nat} {X : Str → Prop} {K : Rv → Prop} (d : D) (w : Nat) (hd : NoTx d) (q : K (.fr false (.bool false))) : RS X (runF Γ n isRow [d, .int (w : Int)]) K := by
  refine rs_run ?_
  simp [isRow, startE, hd]
  exact q
theorem isRow_all {Γ : FT} {n : Nat} {X : Str → Prop} {K : Rv → Prop} (l : Tx) (w : Nat) (hs : Sm l) (hl : l.length ≤ 1000) (q : K (.fr false (.bool (decide (l.length = w ∧ ∀ c ∈ l, c ∈ [48, 49, 45]))))) : RS X (runF Γ n isRow [tx l, .int (w : Int)]) K := by
  refine rs_run ?_
  simp [isRow, startE, len_tx (l := l) (sz _ (by omega))]
  refine ⟨fun h => ?_, fun h => ?_⟩
  · have : ¬(l.length = w ∧ ∀ c ∈ l, c ∈ [48, 49, 45]) := fun z => h (by omega)
    rw [decide_eq_false this] at q
    exact q
  · refine rs_lc (fun i m L => m = false ∧ L = ((l.take i).filter fun c => decide (c ∉ [48, 49, 45])).map fun c => tx [c]) ⟨rfl, rfl⟩ (fun i d m L hd' h' => ?_) (fun m L h' => ?_)
    · obtain ⟨rfl, rfl⟩ := h'
      obtain ⟨hi, rfl⟩ := map_at hd'
      have g := take_get (List.getElem?_eq_getElem hi)
      have c1 : inO (tx [l[i]]) (.tuple [tx [48], tx [49], tx [45]]) = some (decide (l[i] ∈ [48, 49, 45])) := by
        have h := in_sgs l[i] [48, 49, 45]
        exact h
      rw [g]
      generalize l[i] = c at *
      generalize l.take i = t at *
      by_cases hm : c ∈ [48, 49, 45]
      · have d1 := decide_eq_true hm
        rw [d1] at c1
        have hm' : c = 48 ∨ c = 49 ∨ c = 45 := by simpa using hm
        simp [lcT, c1, sz 3 (by decide), hm']
        exact fun a b => (hm'.resolve_left a).resolve_left b
      · have d1 := decide_eq_false hm
        rw [d1] at c1
        have hm' : ¬ (c = 48 ∨ c = 49 ∨ c = 45) := by simpa using hm
        simp [lcT, c1, sz 3 (by decide)]
        rw [List.filter_cons_of_pos (by simpa using hm'), List.filter_nil]
        simp
    · obtain ⟨rfl, rfl⟩ := h'
      rw [List.length_map, List.take_of_length_le (Nat.le_refl _)]
      refine ⟨sz _ (by omega), ?_⟩
      rw [eq_nil (flat_sgs (l := l.filter fun c => decide (c ∉ [48, 49, 45])) fun c hc => hs c (List.mem_filter.mp hc).1)]
      have e : decide (List.map (fun c => tx [c]) (l.filter fun c => decide (c ∉ [48, 49, 45])) = []) = decide (l.length = w ∧ ∀ c ∈ l, c ∈ [48, 49, 45]) := by
        rw [Bool.eq_iff_iff, decide_eq_true_eq, decide_eq_true_eq, List.map_eq_nil_iff, List.filter_eq_nil_iff]
        constructor
        · exact fun z => ⟨by omega, fun c hc => by simpa only [decide_eq_true_eq, Decidable.not_not] using z c hc⟩
        · exact fun z c hc => by simpa only [decide_eq_true_eq, Decidable.not_not] using z.2 c hc
      rw [e]
      simp
      simpa using q
/-- both by rowOf -/
theorem isRowP_th {Γ : FT} {n : Nat} {d : D} (h : Th d) (z : Nat) : runF Γ n isRowP [d, .int (z : Int)] = .ok (.fr false (.bool (rowOf d z).isSome)) := by
  have main : RS (fun _ => False) (runF Γ n isRowP [d, .int (z : Int)]) fun v => v = .fr false (.bool (rowOf d z).isSome) := by
    rcases h with ⟨r, rfl, hl, hs⟩ | ⟨hd, _⟩
    · refine isRowP_ok r z hl ?_
      rw [rowOf_tx]
      split <;> rename_i hc
      · rw [decide_eq_true hc]; rfl
      · rw [decide_eq_false hc]; rfl
    · exact isRowP_no d z hd (by rw [rowOf_no hd]; rfl)
  obtain ⟨a, e, rfl⟩ := rs_eq main
  exact e
theorem isRow_th {Γ : FT} {n : Nat} {d : D} (h : Th d) (z : Nat) : runF Γ n isRow [d, .int (z : Int)] = .ok (.fr false (.bool (rowOf d z).isSome)) := by
  have main : RS (fun _ => False) (runF Γ n isRow [d, .int (z : Int)]) fun v => v = .fr false (.bool (rowOf d z).isSome) := by
    rcases h with ⟨r, rfl, hl, hs⟩ | ⟨hd, _⟩
    · refine isRow_all r z hs hl ?_
      rw [rowOf_tx]
      split <;> rename_i hc
      · rw [decide_eq_true hc]; rfl
      · rw [decide_eq_false hc]; rfl
    · exact isRow_no d z hd (by rw [rowOf_no hd]; rfl)
  obtain ⟨a, e, rfl⟩ := rs_eq main
  exact e
def fieldRow : MF := ⟨8, (.cons (.set 2 .dK0 true) (.cons (.for_ (.t [3, 4]) (.e (.v 1)) (.cons (.unp [5, 6] (.call "field_span" (.cons (.v 0) (.cons (.v 3) .nil)))) (.cons (.ife (.cmp .In (.v 3) (.v 2)) (.cons (.raise_ "Twice" "a field told twice") .nil) .nil) (.cons (.ife (.not_ (.call "is_row" (.cons (.v 4) (.cons (.bin .Sub (.v 6) (.v 5)) .nil)))) (.cons (.raise_ "Misfit" "signs that are no row of the field's size") .nil) .nil) (.cons (.dput 2 (.v 3) (.v 4)) .nil))))) (.cons (.ret (.mt (.ks "") "join" (.cons (.lc (.t [3, 7]) (.e (.v 0)) .no (.dgt 2 (.v 3) (.bin .Mult (.ks "-") (.v 7)))) .nil))) .nil)))⟩
theorem fieldRow_ok {Γ : FT} {n : Nat} (hf : FieldSpanAt Γ) (hr : IsRowPAt Γ) (ps : List Fd) (hn : (ps.map (·.1)).Nodup) (hw : wid ps ≤ 900) (hl : ps.length ≤ 1000) (l : List Pt) (hpl : l.length ≤ 1000) (ht : ∀ p ∈ l, Th p.2) :
    RS (fun x => procP ps l = .error x) (runF Γ n fieldRow [.list (ps.map fl), .list (l.map pt)]) fun v => ∃ s, procP ps l = .ok s ∧ v = .fr false (tx (rowF ps s).flatten) := by
  obtain ⟨Γ1, n1, e1⟩ := hf
  obtain ⟨Γ2, n2, e2⟩ := hr
  refine rs_run ?_
  simp [fieldRow, startE]
  obtain ⟨I, hI⟩ : ∃ I : Nat → List Sl → Prop, ∀ i e, I i e = ∃ (s3 s4 s5 s6 : Sl) (s : Sn) (L : D), e = [.fr true (.list (ps.map fl)), .fr true (.list (l.map pt)), .ow false L, s3, s4, s5, s6, .no] ∧ L = .dict (s.map ent) ∧ procP ps (l.take i) = .ok s := ⟨_, fun _ _ => rfl⟩
  refine fs_for I ?_ (fun i d e hd h => ?_) (fun e h => ?_)
  · rw [hI]
    exact ⟨_, _, _, _, [], _, rfl, rfl, rfl⟩
  · rw [hI] at h
    obtain ⟨s3, s4, s5, s6, s, L, rfl, rfl, hp⟩ := h
    obtain ⟨hi, rfl⟩ := map_at hd
    obtain ⟨g1, g2⟩ := proc_step hi hp
    have hsl := (proc_ok _ hp).2
    rw [List.length_take] at hsl
    have hth := ht _ (List.getElem_mem hi)
    generalize l[i] = p at *
    obtain ⟨x, d⟩ := p
    by_cases hx : x ∈ ps.map (·.1)
    · obtain ⟨k, hk, rfl⟩ := mem_names hx
      have sp := fieldSpan_eq (Γ := Γ1) (n := n1) ps hn k hk
      have sA := size_at hn hk
      have hB := isRowP_th (Γ := Γ2) (n := n2) hth ps[k].2
      have inE := in_ent s ps[k].1
      generalize wid (ps.take k) = A at *
      generalize ps[k] = f at *
      by_cases hs : f.1 ∈ s.map (·.1)
      · rw [decide_eq_true hs] at inE
        simp [pt, e_call e1, sp, inE]
        exact g2 _ (by unfold stepP; simp only [sA, if_pos hs])
      · rw [decide_eq_false hs] at inE
        have ez : ((A : Int) + (f.2 : Int) - (A : Int)) = (f.2 : Int) := by omega
        cases hro : rowOf d f.2 with
        | none =>
          rw [hro] at hB
          simp [pt, e_call e1, sp, inE, e_call e2, hB, ez]
          exact g2 _ (by unfold stepP; simp only [sA, if_neg hs, hro])
        | some r =>
          have hdr : d = tx r := by
            rcases hth with ⟨r', rfl, _, _⟩ | ⟨hd, _⟩
            · rw [rowOf_tx] at hro
              split at hro
              · cases hro; rfl
              · cases hro
            · have hd : NoTx d := hd
              rw [rowOf_no hd] at hro; cases hro
          rw [hro] at hB
          have pe : ∀ env : List Sl, dputR (some (.ow false (.dict (s.map ent)))) 2 env (.ok (.fr true (tx r))) (.ok (.fr true (tx f.1))) = .next (env.set 2 (.ow false (.dict ((s ++ [(f.1, r)]).map ent)))) := fun env => dput_ent hs (by omega)
          subst hdr
          simp [-List.map_append, pt, e_call e1, sp, inE, e_call e2, hB, ez, pe]
          rw [hI]
          exact ⟨_, _, _, _, s ++ [(f.1, r)], _, rfl, rfl, g1 _ (by unfold stepP; simp only [sA, if_neg hs, hro])⟩
    · have sp := fieldSpan_no (Γ := Γ1) (n := n1) ps x hx
      simp [pt, e_call e1, sp]
      exact g2 _ (by unfold stepP; simp only [size_no hx])
  · rw [hI] at h
    obtain ⟨s3, s4, s5, s6, s, L, rfl, rfl, hp⟩ := h
    rw [List.length_map, List.take_of_length_le (Nat.le_refl _)] at hp
    have hso := (proc_ok _ hp).1
    have hsum : ((rowF ps s).map List.length).sum ≤ 900 := by rw [rowF_len hso hn]; exact hw
    have jt := join_tx (ts := rowF ps s) (sz _ (by omega))
    simp
    refine rs_lc (fun i m L => m = false ∧ L = ((rowF ps s).take i).map tx) ⟨rfl, rfl⟩ (fun i d m L hd' h => ?_) (fun m L h => ?_)
    · obtain ⟨rfl, rfl⟩ := h
      obtain ⟨hi, rfl⟩ := map_at hd'
      have hk2 : ps[i].2 ≤ 1000 := by
        have := wid_take hi
        have h2 : wid (ps.take (i + 1)) ≤ wid ps := wid_le ps (i + 1)
        omega
      have hr : (rowF ps s)[i]? = some ((lkS s ps[i].1).getD (List.replicate ps[i].2 45)) := by
        unfold rowF
        rw [List.getElem?_map, List.getElem?_eq_getElem hi]
        rfl
      have g := take_get hr
      generalize ps[i] = f at *
      have dg : evE Γ [.fr true (.list (ps.map fl)), .fr true (.list (l.map pt)), .ow false (.dict (s.map ent)), .fr true (tx f.1), s4, s5, s6, .fr true (.int (f.2 : Int))] (.dgt 2 (.v 3) (.bin .Mult (.ks "-") (.v 7))) = .ok (.fr false (tx ((lkS s f.1).getD (List.replicate f.2 45)))) := dgt_ent (mk' := true) rfl (by simp) (by simp [dashes (n := f.2) hk2])
      simp [lcT, fl, dg, g]
    · obtain ⟨rfl, rfl⟩ := h
      rw [List.length_map, List.take_of_length_le (by unfold rowF; simp)]
      refine ⟨sz _ (by omega), ?_⟩
      simp [jt]
      exact ⟨s, hp, rfl⟩
def wordT (x : Str) : Tx := if x = "NoField" then [102, 105, 101, 108, 100] else if x = "Twice" then [116, 119, 105, 99, 101] else [109, 105, 115, 102, 105, 116]
theorem word_f : wordT "NoField" = [102, 105, 101, 108, 100] := by unfold wordT; rw [if_pos rfl]
theorem word_t : wordT "Twice" = [116, 119, 105, 99, 101] := by unfold wordT; rw [if_neg (by decide), if_pos rfl]
theorem word_m : wordT "Misfit" = [109, 105, 115, 102, 105, 116] := by unfold wordT; rw [if_neg (by decide), if_neg (by decide)]
@[simp] theorem mk_fl (f : Fd) : mk true false (fl f) = .fr true (fl f) := by simp [mk, fl, sc]
@[simp] theorem lit_field : (PyData.str (Str.ofString "field") : D) = tx [102, 105, 101, 108, 100] := (rfl)
@[simp] theorem lit_twice : (PyData.str (Str.ofString "twice") : D) = tx [116, 119, 105, 99, 101] := (rfl)
@[simp] theorem lit_misfit : (PyData.str (Str.ofString "misfit") : D) = tx [109, 105, 115, 102, 105, 116] := (rfl)
def dueD (ps : List Fd) (l : List Pt) : D := match procP ps l with
  | .error x => .tuple [tx (wordT x), .none]
  | .ok s => .tuple [tx [110, 111, 110, 101], tx (rowF ps s).flatten]
def lawDue : MF := ⟨8, (.cons (.set 2 (.lc (.t [4, 7]) (.e (.v 0)) .no (.v 4)) false) (.cons (.set 3 .dK0 true) (.cons (.for_ (.t [4, 5]) (.e (.v 1)) (.cons (.ife (.cmp .NotIn (.v 4) (.v 2)) (.cons (.ret (.tup (.cons (.ks "field") (.cons .kn .nil)))) .nil) .nil) (.cons (.ife (.cmp .In (.v 4) (.v 3)) (.cons (.ret (.tup (.cons (.ks "twice") (.cons .kn .nil)))) .nil) .nil) (.cons (.ife (.not_ (.call "_law_is_row" (.cons (.v 5) (.cons (.ix (.ix (.v 0) (.lix (.v 2) (.v 4))) (.ki 1)) .nil)))) (.cons (.ret (.tup (.cons (.ks "misfit") (.cons .kn .nil)))) .nil) .nil) (.cons (.dput 3 (.v 4) (.v 5)) .nil))))) (.cons (.set 6 (.ks "") false) (.cons (.for_ (.t [4, 7]) (.e (.v 0)) (.cons (.set 6 (.bin .Add (.v 6) (.dgt 3 (.v 4) (.bin .Mult (.ks "-") (.v 7)))) false) .nil)) (.cons (.ret (.tup (.cons (.ks "none") (.cons (.v 6) .nil)))) .nil))))))⟩
theorem lawDue_eq {Γ : FT} {n : Nat} (hr : IsRowAt Γ) (ps : List Fd) (hn : (ps.map (·.1)).Nodup) (hw : wid ps ≤ 900) (hl : ps.length ≤ 1000) (l : List Pt) (hpl : l.length ≤ 1000) (ht : ∀ p ∈ l, Th p.2) :
    runF Γ n lawDue [.list (ps.map fl), .list (l.map pt)] = .ok (.fr false (dueD ps l)) := by
  obtain ⟨Γ2, n2, e2⟩ := hr
  have main : RS (fun _ => False) (runF Γ n lawDue [.list (ps.map fl), .list (l.map pt)]) fun v => v = .fr false (dueD ps l) := by
    refine rs_run ?_
    simp [lawDue, startE]
    refine rs_lc (fun i m L => m = false ∧ L = ((ps.map (·.1)).take i).map tx) ⟨rfl, rfl⟩ (fun i d m L hd' h => ?_) (fun m L h => ?_)
    · obtain ⟨rfl, rfl⟩ := h
      obtain ⟨hi, rfl⟩ := map_at hd'
      have g := take_get (l := ps.map (·.1)) (i := i) (a := ps[i].1) (by rw [List.getElem?_map, List.getElem?_eq_getElem hi]; rfl)
      rw [g]
      simp [lcT, fl]
    · obtain ⟨rfl, rfl⟩ := h
      rw [List.length_map, List.take_of_length_le (by simp)]
      refine ⟨sz _ (by omega), ?_⟩
      have hnl : (ps.map (·.1)).length = ps.length := List.length_map ..
      generalize hN : ps.map (·.1) = N at *
      simp
      obtain ⟨I, hI⟩ : ∃ I : Nat → List Sl → Prop, ∀ i e, I i e = ∃ (s4 s5 : Sl) (s : Sn) (L : D), e = [.fr true (.list (ps.map fl)), .fr true (.list (l.map pt)), .fr false (.list (N.map tx)), .ow false L, s4, s5, .no, .no] ∧ L = .dict (s.map ent) ∧ procP ps (l.take i) = .ok s := ⟨_, fun _ _ => rfl⟩
      refine fs_for I ?_ (fun i d e hd h => ?_) (fun e h => ?_)
      · rw [hI]
        exact ⟨_, _, [], _, rfl, rfl, rfl⟩
      · rw [hI] at h
        obtain ⟨s4, s5, s, L, rfl, rfl, hp⟩ := h
        obtain ⟨hi, rfl⟩ := map_at hd
        obtain ⟨g1, g2⟩ := proc_step hi hp
        have hsl := (proc_ok _ hp).2
        rw [List.length_take] at hsl
        have hth := ht _ (List.getElem_mem hi)
        generalize l[i] = p at *
        obtain ⟨x, d⟩ := p
        have inN := in_txs x N
        by_cases hx : x ∈ N
        · rw [decide_eq_true hx] at inN
          rw [← hN] at hx
          obtain ⟨k, hk, rfl⟩ := mem_names hx
          have sA := size_at (ps := ps) (by rw [hN]; exact hn) hk
          have hB := isRow_th (Γ := Γ2) (n := n2) hth ps[k].2
          have inE := in_ent s ps[k].1
          have lx := lix_tx hn (k := k) (by omega)
          have hNk : N[k]'(by omega) = ps[k].1 := by subst hN; simp
          rw [hNk] at lx
          have ixp : semIx (.list (ps.map fl)) (.int (k : Int)) = some (fl ps[k]) := ix_list (by rw [List.getElem?_map, List.getElem?_eq_getElem hk]; rfl)
          have ix1 : semIx (fl ps[k]) (.int 1) = some (.int (ps[k].2 : Int)) := ix_tup (i := 1) rfl
          generalize ps[k] = f at *
          by_cases hs : f.1 ∈ s.map (·.1)
          · rw [decide_eq_true hs] at inE
            have hp2 := g2 "Twice" (by unfold stepP; simp only [sA, if_pos hs])
            simp [pt, inN, inE, sz 2 (by decide), dueD, hp2, word_f, word_t, word_m]
          · rw [decide_eq_false hs] at inE
            cases hro : rowOf d f.2 with
            | none =>
              rw [hro] at hB
              have hp2 := g2 "Misfit" (by unfold stepP; simp only [sA, if_neg hs, hro])
              simp [pt, inN, inE, lx, ixp, ix1, e_call e2, hB, sz 2 (by decide), dueD, hp2, word_f, word_t, word_m]
            | some r =>
              have hdr : d = tx r := by
                rcases hth with ⟨r', rfl, _, _⟩ | ⟨hd, _⟩
                · rw [rowOf_tx] at hro
                  split at hro
                  · cases hro; rfl
                  · cases hro
                · have hd : NoTx d := hd
                  rw [rowOf_no hd] at hro; cases hro
              rw [hro] at hB
              have pe : ∀ env : List Sl, dputR (some (.ow false (.dict (s.map ent)))) 3 env (.ok (.fr true (tx r))) (.ok (.fr true (tx f.1))) = .next (env.set 3 (.ow false (.dict ((s ++ [(f.1, r)]).map ent)))) := fun env => dput_ent hs (by omega)
              subst hdr
              simp [-List.map_append, pt, inN, inE, lx, ixp, ix1, e_call e2, hB, pe]
              rw [hI]
              exact ⟨_, _, s ++ [(f.1, r)], _, rfl, rfl, g1 _ (by unfold stepP; simp only [sA, if_neg hs, hro])⟩
        · rw [decide_eq_false hx] at inN
          rw [← hN] at hx
          have hp2 := g2 "NoField" (by unfold stepP; simp only [size_no hx])
          simp [pt, inN, sz 2 (by decide), dueD, hp2, word_f, word_t, word_m]
      · rw [hI] at h
        obtain ⟨s4, s5, s, L, rfl, rfl, hp⟩ := h
        rw [List.length_map, List.take_of_length_le (Nat.le_refl _)] at hp
        have hso := (proc_ok _ hp).1
        have hn' : (ps.map (·.1)).Nodup := by rw [hN]; exact hn
        simp
        obtain ⟨J, hJ⟩ : ∃ J : Nat → List Sl → Prop, ∀ i e, J i e = ∃ (s4 s7 : Sl), e = [.fr true (.list (ps.map fl)), .fr true (.list (l.map pt)), .fr false (.list (N.map tx)), .ow false (.dict (s.map ent)), s4, s5, .fr false (tx ((rowF ps s).take i).flatten), s7] := ⟨_, fun _ _ => rfl⟩
        have tl : ∀ i, ((rowF ps s).take i).flatten.length = wid (ps.take i) := fun i => by
          rw [List.length_flatten, List.map_take, rowF_len hso hn', ← List.map_take]
          rfl
        refine fs_for J ?_ (fun i d e hd h => ?_) (fun e h => ?_)
        · rw [hJ]
          exact ⟨_, _, rfl⟩
        · rw [hJ] at h
          obtain ⟨s4, s7, rfl⟩ := h
          obtain ⟨hi, rfl⟩ := map_at hd
          have hk2 : ps[i].2 ≤ 1000 := by
            have := wid_take hi
            have h2 : wid (ps.take (i + 1)) ≤ wid ps := wid_le ps (i + 1)
            omega
          have hr : (rowF ps s)[i]? = some ((lkS s ps[i].1).getD (List.replicate ps[i].2 45)) := by
            unfold rowF
            rw [List.getElem?_map, List.getElem?_eq_getElem hi]
            rfl
          have g := take_get hr
          have ll := lk_len hso hn' hi
          have t1 := tl i
          have w1 := wid_le ps i
          generalize ps[i] = f at *
          generalize hA : ((rowF ps s).take i).flatten = A at *
          have dg : evE Γ [.fr true (.list (ps.map fl)), .fr true (.list (l.map pt)), .fr false (.list (N.map tx)), .ow false (.dict (s.map ent)), .fr true (tx f.1), s5, .fr false (tx A), .fr true (.int (f.2 : Int))] (.dgt 3 (.v 4) (.bin .Mult (.ks "-") (.v 7))) = .ok (.fr false (tx ((lkS s f.1).getD (List.replicate f.2 45)))) := dgt_ent (mk' := true) rfl (by simp) (by simp [dashes (n := f.2) hk2])
          have ad := add_tx (a := A) (b := (lkS s f.1).getD (List.replicate f.2 45)) (sz _ (by omega))
          simp [fl, dg, ad]
          rw [hJ, g, List.flatten_append, hA]
          exact ⟨_, _, by simp; exact ⟨rfl, rfl⟩⟩
        · rw [hJ] at h
          obtain ⟨s4, s7, rfl⟩ := h
          rw [List.length_map, List.take_of_length_le (by unfold rowF; simp)]
          simp [sz 2 (by decide), dueD, hp]
  obtain ⟨a, e, rfl⟩ := rs_eq main
  exact e
end M
end En
set_option Elab.async false
set_option linter.all false
set_option maxRecDepth 100000
set_option maxHeartbeats 4000000
namespace En
open PySem L2

theorem lit_sp : (PyData.str (Str.ofString " ") : D) = tx [32] := (rfl)
theorem lit_a : (PyData.str (Str.ofString "a") : D) = tx [97] := (rfl)
theorem lit_nl : (PyData.str (Str.ofString "\n") : D) = tx [10] := (rfl)
theorem lit_st : (PyData.str (Str.ofString "*") : D) = tx [42] := (rfl)
theorem lit_two : (PyData.str (Str.ofString "2") : D) = tx [50] := (rfl)
theorem signs_of {r : Tx} (hr : r.length ≤ 1000) : semBi "list" [tx r] = some (true, .list (r.map fun c => tx [c])) ∧ semBi "tuple" [tx r] = some (false, .tuple (r.map fun c => tx [c])) := by
  have f1 : En.fits (⟨r.toArray⟩ : Str).cps.toList.length = true := decide_eq_true (sz _ (by simpa using (show r.length ≤ 16777216 by omega)))
  constructor
  · have : semBi "list" [tx r] = s_list [tx r] := by unfold semBi; rw [if_neg (by decide), if_pos rfl]
    rw [this]
    show (if En.fits (⟨r.toArray⟩ : Str).cps.toList.length = true then some (true, PyData.list ((⟨r.toArray⟩ : Str).cps.toList.map fun c => .str ⟨#[c]⟩)) else none) = _
    rw [if_pos f1]
    simp [tx]
  · have : semBi "tuple" [tx r] = s_tuple [tx r] := by unfold semBi; rw [if_neg (by decide), if_neg (by decide), if_pos rfl]
    rw [this]
    show (if En.fits (⟨r.toArray⟩ : Str).cps.toList.length = true then some (false, PyData.tuple ((⟨r.toArray⟩ : Str).cps.toList.map fun c => .str ⟨#[c]⟩)) else none) = _
    rw [if_pos f1]
    simp [tx]
theorem th_tx {r : Tx} (h : Sm r) (hl : r.length ≤ 1000) : Th (tx r) := .inl ⟨r, rfl, hl, h⟩
namespace M
def lawSigns : MF := ⟨5, (.cons (.set 2 (.call "_law_row" (.cons (.bin .FloorDiv (.v 0) (.ki 18)) (.cons (.v 1) (.cons (.bin .Add (.ki 1) (.bin .Mod (.v 0) (.ki 3))) .nil)))) false) (.cons (.set 3 (.bin .Mod (.bin .FloorDiv (.v 0) (.ki 3)) (.ki 6)) false) (.cons (.ife (.cmp .Eq (.v 3) (.ki 1)) (.cons (.ret (.ix (.lst (.cons (.bin .Add (.v 2) (.ks "-")) (.cons (.sl (.v 2) (.so (.ki 1)) .no) (.cons (.bin .Add (.sl (.v 2) .no (.so (.neg (.ki 1)))) (.ks "2")) .nil)))) (.bin .Mod (.bin .FloorDiv (.v 0) (.ki 18)) (.ki 3)))) .nil) .nil) (.cons (.ife (.cmp .Eq (.v 3) (.ki 2)) (.cons (.set 4 (.bin .Mod (.bin .FloorDiv (.v 0) (.ki 18)) (.v 1)) false) (.cons (.ret (.bin .Add (.bin .Add (.sl (.v 2) .no (.so (.v 4))) (.ix (.lst (.cons (.ks " ") (.cons (.ks "a") (.cons (.ks "\n") (.cons (.ks "*") .nil))))) (.bin .Mod (.bin .FloorDiv (.v 0) (.ki 108)) (.ki 4)))) (.sl (.v 2) (.so (.bin .Add (.v 4) (.ki 1))) .no))) .nil)) .nil) (.cons (.ife (.bop true (.cons (.cmp .Eq (.v 3) (.ki 3)) (.cons (.cmp .Eq (.bin .Mod (.bin .FloorDiv (.v 0) (.ki 18)) (.ki 2)) (.ki 1)) .nil))) (.cons (.ret (.ix (.lst (.cons .kn (.cons (.kb true) (.cons (.ki 0) (.cons (.ki 10) (.cons (.bi "list" (.cons (.v 2) .nil)) (.cons (.bi "tuple" (.cons (.v 2) .nil)) .nil))))))) (.bin .Mod (.bin .FloorDiv (.v 0) (.ki 36)) (.ki 6)))) .nil) .nil) (.cons (.ret (.v 2)) .nil))))))⟩
theorem lawSigns_ok {Γ : FT} {n : Nat} {X : Str → Prop} {K : Rv → Prop} (hr : RowAt Γ) (c : Int) (z : Nat) (h1 : 1 ≤ z) (h9 : z ≤ 900) (q : ∀ d, Th d → K (.fr false d)) : RS X (runF Γ n lawSigns [.int c, .int (z : Int)]) K := by
  obtain ⟨Γ1, n1, hs, e1⟩ := hr
  refine rs_run ?_
  simp [-fs_if, lawSigns, startE, e_call e1, En.mod_int, En.div_int]
  refine row_ok (Γ := Γ1) hs _ (z : Int) _ (by omega) (by omega) (by omega) fun r hR => ?_
  have hR : Row z r := by simpa using hR
  have sm := row_sm hR
  have hl := hR.1
  simp [-fs_if, -rs_bopA, En.mod_int, En.div_int]
  rw [fs_if]
  refine ⟨fun _ => ?_, fun _ => ?_⟩
  · have a1 := add_tx (a := r) (b := [45]) (sz _ (by simp; omega))
    have a2 := sl_tx (l := r) (sz _ (by omega)) (some 1) none
    have a3 := sl_tx (l := r) (sz _ (by omega)) none (some (-1))
    have c1 := cut_le r (some 1) none
    have c2 := cut_le r none (some (-1))
    have a4 := add_tx (a := cutL r none (some (-1))) (b := [50]) (sz _ (by simp; omega))
    obtain ⟨L, hL, hll, hn⟩ : ∃ L : List D, L = [tx (r ++ [45]), tx (cutL r (some 1) none), tx (cutL r none (some (-1)) ++ [50])] ∧ L.length = 3 ∧ ∀ d ∈ L, Th d := ⟨_, rfl, rfl, fun d hd => by
      simp only [List.mem_cons, List.not_mem_nil, or_false] at hd
      rcases hd with rfl | rfl | rfl
      · exact th_tx (sm_app sm (sm_one (by decide))) (by simp; omega)
      · exact th_tx (fun x hx => sm x (cut_mem hx)) (by omega)
      · exact th_tx (sm_app (fun x hx => sm x (cut_mem hx)) (sm_one (by decide))) (by simp; omega)⟩
    obtain ⟨k, hk, hk3⟩ : ∃ k : Nat, (k : Int) = c / 18 % 3 ∧ k < 3 := ⟨(c / 18 % 3).toNat, by omega, by omega⟩
    have ix := ix_list (l := L) (List.getElem?_eq_getElem (i := k) (by omega))
    have hm := hn _ (List.getElem_mem (show k < L.length by omega))
    generalize L[k] = d at *
    rw [hL] at ix
    simp [lit_two, a1, a2, a3, a4, sz 3 (by decide), En.mod_int, En.div_int, ← hk, ix]
    exact q _ hm
  · simp [-fs_if, -rs_bopA]
    rw [fs_if]
    refine ⟨fun _ => ?_, fun _ => ?_⟩
    · obtain ⟨p, hp, hpz⟩ : ∃ p : Nat, (p : Int) = c / 18 % (z : Int) ∧ p < z := by
        have h1 := Int.emod_nonneg (c / 18) (show (z : Int) ≠ 0 by omega)
        have h2 := Int.emod_lt_of_pos (c / 18) (show (0 : Int) < (z : Int) by omega)
        exact ⟨(c / 18 % (z : Int)).toNat, by omega, by omega⟩
      obtain ⟨L, hL, hll, hn⟩ : ∃ L : List D, L = [tx [32], tx [97], tx [10], tx [42]] ∧ L.length = 4 ∧ ∀ d ∈ L, ∃ y, y < 1114112 ∧ d = tx [y] := ⟨_, rfl, rfl, fun d hd => by
        simp only [List.mem_cons, List.not_mem_nil, or_false] at hd
        rcases hd with rfl | rfl | rfl | rfl
        · exact ⟨32, by decide, rfl⟩
        · exact ⟨97, by decide, rfl⟩
        · exact ⟨10, by decide, rfl⟩
        · exact ⟨42, by decide, rfl⟩⟩
      obtain ⟨k, hk, hk3⟩ : ∃ k : Nat, (k : Int) = c / 108 % 4 ∧ k < 4 := ⟨(c / 108 % 4).toNat, by omega, by omega⟩
      have ix := ix_list (l := L) (List.getElem?_eq_getElem (i := k) (by omega))
      obtain ⟨y, hy, he⟩ := hn _ (List.getElem_mem (show k < L.length by omega))
      rw [he, hL] at ix
      simp [lit_sp, lit_a, lit_nl, lit_st, En.mod_int (i := c / 18) (j := (z : Int)) (by omega), En.mod_int, En.div_int, ← hp, ← hk, ix, sz 4 (by decide), sp_to (l := r) (i := p) (by omega), sp_from (l := r) (i := p) (by omega), sp_a1 (l := r) (i := p) (by omega), sp_a2 (l := r) (i := p) (by omega) (by omega)]
      exact q _ (th_tx (sm_set sm hy) (by simp; omega))
    · simp [-fs_if, -rs_bopA, En.mod_int, En.div_int]
      refine ⟨fun _ => ?_, fun _ => ?_⟩
      · rw [fs_if]
        refine ⟨fun _ => ?_, fun _ => ?_⟩
        · obtain ⟨e1, e2⟩ := signs_of (r := r) (by omega)
          have n1 : ∀ d ∈ r.map (fun c => tx [c]), Nc 0 d := fun d hd => (flat_sgs sm d hd).nc
          have s0 : ∀ {d : D}, NoTx d → Nc 0 d → Th d := fun h1 h2 => .inr ⟨h1, h2.1, Nat.le_trans h2.2 (by decide)⟩
          obtain ⟨L, hL, hll, hn⟩ : ∃ L : List D, L = [PyData.none, .bool true, .int 0, .int 10, .list (r.map fun c => tx [c]), .tuple (r.map fun c => tx [c])] ∧ L.length = 6 ∧ ∀ d ∈ L, Th d := ⟨_, rfl, rfl, fun d hd => by
            simp only [List.mem_cons, List.not_mem_nil, or_false] at hd
            rcases hd with rfl | rfl | rfl | rfl | rfl | rfl
            · exact s0 rfl nc_none
            · exact s0 rfl ⟨by simp [PyData.canLay0], by simp [PyData.depth]⟩
            · exact s0 rfl ⟨by simp [PyData.canLay0], by simp [PyData.depth]⟩
            · exact s0 rfl ⟨by simp [PyData.canLay0], by simp [PyData.depth]⟩
            · exact .inr ⟨rfl, nc_list n1⟩
            · exact .inr ⟨rfl, nc_tup n1⟩⟩
          obtain ⟨k, hk, hk3⟩ : ∃ k : Nat, (k : Int) = c / 36 % 6 ∧ k < 6 := ⟨(c / 36 % 6).toNat, by omega, by omega⟩
          have ix := ix_list (l := L) (List.getElem?_eq_getElem (i := k) (by omega))
          have hm := hn _ (List.getElem_mem (show k < L.length by omega))
          generalize L[k] = d at *
          rw [hL] at ix
          simp [e1, e2, sz 6 (by decide), En.mod_int, En.div_int, ← hk, ix]
          exact q _ hm
        · simp
          exact q _ (th_tx sm (by omega))
      · exact q _ (th_tx sm (by omega))
def LawSignsAt (Γ : FT) : Prop := ∃ Γ1 n1, RowAt Γ1 ∧ Γ "_law_signs" = some (2, fun ds => runF Γ1 n1 lawSigns ds)
def lawParts : MF := ⟨7, (.cons (.set 3 (.lst .nil) true) (.cons (.for_ (.n 4) (.e (.v 0)) (.cons (.set 5 (.bin .Mod (.bin .Add (.bi "len" (.cons (.v 3) .nil)) (.bin .FloorDiv (.bin .Mod (.bin .FloorDiv (.v 4) (.ki 8)) (.ki 9)) (.ki 8))) (.bi "len" (.cons (.v 2) .nil))) false) (.cons (.set 6 (.ix (.v 1) (.v 5)) false) (.cons (.ife (.cmp .Eq (.bin .Mod (.v 4) (.ki 8)) (.ki 5)) (.cons (.set 6 (.ix (.v 1) (.bi "len" (.cons (.v 2) .nil))) false) .nil) .nil) (.cons (.app 3 (.tup (.cons (.v 6) (.cons (.call "_law_signs" (.cons (.bin .FloorDiv (.v 4) (.ki 72)) (.cons (.ix (.v 2) (.v 5)) .nil))) .nil)))) .nil))))) (.cons (.reto 3) .nil)))⟩
theorem lawParts_ok {Γ : FT} {n : Nat} {X : Str → Prop} {K : Rv → Prop} (hs : LawSignsAt Γ) (cs : List Int) (hc : cs.length ≤ 1000) (names : List Tx) (zs : List Nat) (hnl : names.length = zs.length + 1) (h1 : 1 ≤ zs.length) (hsm : ∀ d ∈ names, Sm d) (hz : ∀ z ∈ zs, 1 ≤ z ∧ z ≤ 900)
    (q : ∀ l : List Pt, l.length = cs.length → (∀ p ∈ l, Sm p.1 ∧ Th p.2) → K (.ow false (.list (l.map pt)))) : RS X (runF Γ n lawParts [.list (cs.map .int), .list (names.map tx), .list (zs.map fun z : Nat => .int (z : Int))]) K := by
  obtain ⟨Γ1, n1, hr, e1⟩ := hs
  refine rs_run ?_
  simp [lawParts, startE]
  obtain ⟨I, hI⟩ : ∃ I : Nat → List Sl → Prop, ∀ i e, I i e = ∃ (s4 s5 s6 : Sl) (l : List Pt) (L : D), e = [.fr true (.list (cs.map .int)), .fr true (.list (names.map tx)), .fr true (.list (zs.map fun z : Nat => .int (z : Int))), .ow false L, s4, s5, s6] ∧ L = .list (l.map pt) ∧ l.length = i ∧ ∀ p ∈ l, Sm p.1 ∧ Th p.2 := ⟨_, fun _ _ => rfl⟩
  refine fs_for I ?_ (fun i d e hd h => ?_) (fun e h => ?_)
  · rw [hI]
    exact ⟨_, _, _, [], _, rfl, rfl, rfl, by simp⟩
  · rw [hI] at h
    obtain ⟨s4, s5, s6, l, L, rfl, rfl, hl, hp⟩ := h
    obtain ⟨hi, rfl⟩ := map_at hd
    generalize cs[i] = c at *
    obtain ⟨k, hk, hk2⟩ : ∃ k : Nat, (k : Int) = ((l.length : Int) + c / 8 % 9 / 8) % (zs.length : Int) ∧ k < zs.length := by
      have h1 := Int.emod_nonneg ((l.length : Int) + c / 8 % 9 / 8) (show (zs.length : Int) ≠ 0 by omega)
      have h2 := Int.emod_lt_of_pos ((l.length : Int) + c / 8 % 9 / 8) (show (0 : Int) < (zs.length : Int) by omega)
      exact ⟨(((l.length : Int) + c / 8 % 9 / 8) % (zs.length : Int)).toNat, by omega, by omega⟩
    have ixn : ∀ j (hj : j < names.length), semIx (.list (names.map tx)) (.int (j : Int)) = some (tx names[j]) := fun j hj => ix_list (by rw [List.getElem?_map, List.getElem?_eq_getElem hj]; rfl)
    have ixz : semIx (.list (zs.map fun z : Nat => .int (z : Int))) (.int (k : Int)) = some (.int (zs[k] : Int)) := ix_list (by rw [List.getElem?_map, List.getElem?_eq_getElem hk2]; rfl)
    have n1' := ixn k (by omega)
    have n2' := ixn zs.length (by omega)
    have s1' := hsm _ (List.getElem_mem (show k < names.length by omega))
    have s2' := hsm _ (List.getElem_mem (show zs.length < names.length by omega))
    have hz' := hz _ (List.getElem_mem hk2)
    generalize names[k] = xa at *
    generalize names[zs.length] = xb at *
    generalize zs[k] = z at *
    simp [-fs_if, En.mod_int, En.div_int, En.mod_int (i := (l.length : Int) + c / 8 % 9 / 8) (j := (zs.length : Int)) (by omega), ← hk, n1']
    refine fs_cut (fun e => ∃ x : Tx, Sm x ∧ e = [.fr true (.list (cs.map .int)), .fr true (.list (names.map tx)), .fr true (.list (zs.map fun z : Nat => .int (z : Int))), .ow false (.list (l.map pt)), .fr true (.int c), .fr false (.int (k : Int)), .fr false (tx x)]) (fun _ => ?_) (fun _ => ?_) (fun e h => ?_)
    · simp [n2']
      exact ⟨xb, s2', rfl⟩
    · simp
      exact ⟨xa, s1', rfl⟩
    · obtain ⟨x, hx, rfl⟩ := h
      simp [e_call e1, En.div_int, ixz]
      refine lawSigns_ok (Γ := Γ1) hr _ z hz'.1 hz'.2 fun d hd => ?_
      have an : ans false (.fr false d) = .ok (.fr false d) := by simp [ans]
      have st : stos [Rv.fr false (tx x), .fr false d] = .ok (false, [tx x, d]) := by simp [stos, sto]
      have fs : l.length < sizeLine := slt (by omega)
      simp [an, st, sz 2 (by decide), fs]
      rw [hI]
      exact ⟨_, _, _, l ++ [(x, d)], _, rfl, by simp [pt], by simp [hl], fun p hp' => by
        rcases List.mem_append.mp hp' with hp' | hp'
        · exact hp p hp'
        · rw [List.mem_singleton.mp hp']; exact ⟨hx, hd⟩⟩
  · rw [hI] at h
    obtain ⟨s4, s5, s6, l, L, rfl, rfl, hl, hp⟩ := h
    simp
    exact q l (by simpa using hl) hp
end M
end En
set_option Elab.async false
set_option linter.all false
set_option maxRecDepth 100000
set_option maxHeartbeats 4000000
namespace K16
open PySem PySem.Spec PyProof.Rows L2 En
def topS (i : Nat) : Stmt := PySem.Challenge.pw_throng_k16_rows_by_fields.main.body.getD i (.Pass ⟨0, 0, 0, 0⟩)
abbrev stW0 : Stmt := topS 23
def nmW0 : List Str := ["e", "words"]
theorem fsW0 : FnScope nmW0 ["e"] (defScope stW0) := ⟨rfl, rfl, rfl, by decide +kernel, rfl, by decide +kernel, by decide +kernel⟩
def wdl0 : List (WT × Str) := [((.is "Misfit"), "misfit"), ((.is "Twice"), "twice"), ((.is "NoField"), "field"), ((.is "NoRule"), "rule"), ((.is "NoWay"), "way"), ((.or (.cons (.tup ["NoDoor", "NoHouse"]) (.cons (.tup ["NoLine", "BadWord"]) (.one (.is "Unlike"))))), "other"), ((.not (.is "ValueError")), "base")]
theorem okW0 : okWd nmW0 (defScope stW0) 0 1 wdl0 (defBody stW0) = true := by decide +kernel
def val_Misfit : Str → Option Bool := fun c => if c = "Misfit" then some true else if c = "Twice" then some false else if c = "NoField" then some false else if c = "NoRule" then some false else if c = "NoWay" then some false else if c = "NoDoor" then some false else if c = "NoHouse" then some false else if c = "NoLine" then some false else if c = "BadWord" then some false else if c = "Unlike" then some false else if c = "ValueError" then some true else none
def cat_Misfit : Str → Option Bool := fun c => if c = "ThrongError" then some true else none
def out0_Misfit : List Str := ["misfit"]
theorem ev0_Misfit : evWd val_Misfit wdl0 = some out0_Misfit := by decide +kernel
def wd_Misfit : Str → Option Str := fun f => if f = "_law_word" then some (Txt.join ⟨#[]⟩ out0_Misfit) else none
def val_NoField : Str → Option Bool := fun c => if c = "Misfit" then some false else if c = "Twice" then some false else if c = "NoField" then some true else if c = "NoRule" then some false else if c = "NoWay" then some false else if c = "NoDoor" then some false else if c = "NoHouse" then some false else if c = "NoLine" then some false else if c = "BadWord" then some false else if c = "Unlike" then some false else if c = "ValueError" then some true else none
def cat_NoField : Str → Option Bool := fun c => if c = "ThrongError" then some true else none
def out0_NoField : List Str := ["field"]
theorem ev0_NoField : evWd val_NoField wdl0 = some out0_NoField := by decide +kernel
def wd_NoField : Str → Option Str := fun f => if f = "_law_word" then some (Txt.join ⟨#[]⟩ out0_NoField) else none
def val_Twice : Str → Option Bool := fun c => if c = "Misfit" then some false else if c = "Twice" then some true else if c = "NoField" then some false else if c = "NoRule" then some false else if c = "NoWay" then some false else if c = "NoDoor" then some false else if c = "NoHouse" then some false else if c = "NoLine" then some false else if c = "BadWord" then some false else if c = "Unlike" then some false else if c = "ValueError" then some true else none
def cat_Twice : Str → Option Bool := fun c => if c = "ThrongError" then some true else none
def out0_Twice : List Str := ["twice"]
theorem ev0_Twice : evWd val_Twice wdl0 = some out0_Twice := by decide +kernel
def wd_Twice : Str → Option Str := fun f => if f = "_law_word" then some (Txt.join ⟨#[]⟩ out0_Twice) else none
def ex : Ex := ⟨["Misfit", "NoField", "Twice"], ["Misfit", "NoField", "Twice"], ["ThrongError"], fun x => if x = "Misfit" then val_Misfit else if x = "NoField" then val_NoField else if x = "Twice" then val_Twice else fun _ => none, fun x => if x = "Misfit" then cat_Misfit else if x = "NoField" then cat_NoField else if x = "Twice" then cat_Twice else fun _ => none, fun x => if x = "Misfit" then wd_Misfit else if x = "NoField" then wd_NoField else if x = "Twice" then wd_Twice else fun _ => none⟩
-- 0 _law_cell_at ['script', 'k']
abbrev st0 : Stmt := topS 18
def nm0 : List Str := ["script", "k"]
def mf0 : MF := M.cell
theorem fs0 : FnScope nm0 ["script", "k"] (defScope st0) := ⟨rfl, rfl, rfl, by decide +kernel, rfl, by decide +kernel, by decide +kernel⟩
theorem ok0 : (decide (mf0.slots = nm0.length) && decide ((["script", "k"] : List Str).length ≤ nm0.length) && okSs (exL []) nm0 (defScope st0) mf0.body (defBody st0)) = true := by decide +kernel
-- 1 _law_stream ['cell', 'many', 'found', 'number', 'k']
abbrev st1 : Stmt := topS 19
def nm1 : List Str := ["cell", "many", "found", "number", "k"]
def mf1 : MF := M.stream
theorem fs1 : FnScope nm1 ["cell", "many"] (defScope st1) := ⟨rfl, rfl, rfl, by decide +kernel, rfl, by decide +kernel, by decide +kernel⟩
theorem ok1 : (decide (mf1.slots = nm1.length) && decide ((["cell", "many"] : List Str).length ≤ nm1.length) && okSs (exL []) nm1 (defScope st1) mf1.body (defBody st1)) = true := by decide +kernel
-- 2 _law_names ['cell', 'many', 'abc', 'base', 'at', 'number', 'k']
abbrev st2 : Stmt := topS 21
def nm2 : List Str := ["cell", "many", "abc", "base", "at", "number", "k"]
def mf2 : MF := M.names
theorem fs2 : FnScope nm2 ["cell", "many"] (defScope st2) := ⟨rfl, rfl, rfl, by decide +kernel, rfl, by decide +kernel, by decide +kernel⟩
theorem ok2 : (decide (mf2.slots = nm2.length) && decide ((["cell", "many"] : List Str).length ≤ nm2.length) && okSs (exL []) nm2 (defScope st2) mf2.body (defBody st2)) = true := by decide +kernel
-- 3 _law_row ['cell', 'width', 'loose', 'signs', 'number']
abbrev st3 : Stmt := topS 20
def nm3 : List Str := ["cell", "width", "loose", "signs", "number"]
def mf3 : MF := M.row
theorem fs3 : FnScope nm3 ["cell", "width", "loose"] (defScope st3) := ⟨rfl, rfl, rfl, by decide +kernel, rfl, by decide +kernel, by decide +kernel⟩
theorem ok3 : (decide (mf3.slots = nm3.length) && decide ((["cell", "width", "loose"] : List Str).length ≤ nm3.length) && okSs (exL []) nm3 (defScope st3) mf3.body (defBody st3)) = true := by decide +kernel
-- 4 _law_signs ['cell', 'size', 'signs', 'way', 'at']
abbrev st4 : Stmt := topS 24
def nm4 : List Str := ["cell", "size", "signs", "way", "at"]
def mf4 : MF := M.lawSigns
theorem fs4 : FnScope nm4 ["cell", "size"] (defScope st4) := ⟨rfl, rfl, rfl, by decide +kernel, rfl, by decide +kernel, by decide +kernel⟩
theorem ok4 : (decide (mf4.slots = nm4.length) && decide ((["cell", "size"] : List Str).length ≤ nm4.length) && okSs (exL []) nm4 (defScope st4) mf4.body (defBody st4)) = true := by decide +kernel
-- 5 _law_parts ['cells', 'names', 'sizes', 'found', 'cell', 'k', 'name']
abbrev st5 : Stmt := topS 26
def nm5 : List Str := ["cells", "names", "sizes", "found", "cell", "k", "name"]
def mf5 : MF := M.lawParts
theorem fs5 : FnScope nm5 ["cells", "names", "sizes"] (defScope st5) := ⟨rfl, rfl, rfl, by decide +kernel, rfl, by decide +kernel, by decide +kernel⟩
theorem ok5 : (decide (mf5.slots = nm5.length) && decide ((["cells", "names", "sizes"] : List Str).length ≤ nm5.length) && okSs (exL []) nm5 (defScope st5) mf5.body (defBody st5)) = true := by decide +kernel
-- 6 field_span ['layout', 'name', 'first', 'own', 'size']
abbrev st6 : Stmt := topS 15
def nm6 : List Str := ["layout", "name", "first", "own", "size"]
def mf6 : MF := M.fieldSpan
theorem fs6 : FnScope nm6 ["layout", "name"] (defScope st6) := ⟨rfl, rfl, rfl, by decide +kernel, rfl, by decide +kernel, by decide +kernel⟩
theorem ok6 : (decide (mf6.slots = nm6.length) && decide ((["layout", "name"] : List Str).length ≤ nm6.length) && okSs ex nm6 (defScope st6) mf6.body (defBody st6)) = true := by decide +kernel
-- 7 is_row ['thing', 'width', 'sign']
abbrev st7 : Stmt := topS 13
def nm7 : List Str := ["thing", "width", "sign"]
def mf7 : MF := M.isRowP
theorem fs7 : FnScope nm7 ["thing", "width"] (defScope st7) := ⟨rfl, rfl, rfl, by decide +kernel, rfl, by decide +kernel, by decide +kernel⟩
theorem ok7 : (decide (mf7.slots = nm7.length) && decide ((["thing", "width"] : List Str).length ≤ nm7.length) && okSs (exL []) nm7 (defScope st7) mf7.body (defBody st7)) = true := by decide +kernel
-- 8 field_row ['layout', 'parts', 'told', 'name', 'signs', 'first', 'behind', 'size']
abbrev st8 : Stmt := topS 16
def nm8 : List Str := ["layout", "parts", "told", "name", "signs", "first", "behind", "size"]
def mf8 : MF := M.fieldRow
theorem fs8 : FnScope nm8 ["layout", "parts"] (defScope st8) := ⟨rfl, rfl, rfl, by decide +kernel, rfl, by decide +kernel, by decide +kernel⟩
theorem ok8 : (decide (mf8.slots = nm8.length) && decide ((["layout", "parts"] : List Str).length ≤ nm8.length) && okSs ex nm8 (defScope st8) mf8.body (defBody st8)) = true := by decide +kernel
-- 9 _law_is_row ['found', 'width', 'sign']
abbrev st9 : Stmt := topS 22
def nm9 : List Str := ["found", "width", "sign"]
def mf9 : MF := M.isRow
theorem fs9 : FnScope nm9 ["found", "width"] (defScope st9) := ⟨rfl, rfl, rfl, by decide +kernel, rfl, by decide +kernel, by decide +kernel⟩
theorem ok9 : (decide (mf9.slots = nm9.length) && decide ((["found", "width"] : List Str).length ≤ nm9.length) && okSs (exL []) nm9 (defScope st9) mf9.body (defBody st9)) = true := by decide +kernel
-- 10 _law_due ['layout', 'parts', 'known', 'seen', 'name', 'signs', 'row', 'size']
abbrev st10 : Stmt := topS 25
def nm10 : List Str := ["layout", "parts", "known", "seen", "name", "signs", "row", "size"]
def mf10 : MF := M.lawDue
theorem fs10 : FnScope nm10 ["layout", "parts"] (defScope st10) := ⟨rfl, rfl, rfl, by decide +kernel, rfl, by decide +kernel, by decide +kernel⟩
theorem ok10 : (decide (mf10.slots = nm10.length) && decide ((["layout", "parts"] : List Str).length ≤ nm10.length) && okSs (exL []) nm10 (defScope st10) mf10.body (defBody st10)) = true := by decide +kernel
-- 11 law ['script', 'many', 'names', 'sizes', 'layout', 'parts', 'handed', 'word', 'found', 'e', 'number', 'k']
abbrev st11 : Stmt := topS 27
def nm11 : List Str := ["script", "many", "names", "sizes", "layout", "parts", "handed", "word", "found", "e", "number", "k"]
def mf11 : MF := ⟨12, (.cons (.set 1 (.bin .Add (.ki 1) (.bin .Mod (.call "_law_cell_at" (.cons (.v 0) (.cons (.ki 0) .nil))) (.ki 5))) false) (.cons (.set 2 (.call "_law_names" (.cons (.call "_law_cell_at" (.cons (.v 0) (.cons (.ki 1) .nil))) (.cons (.bin .Add (.v 1) (.ki 1)) .nil))) false) (.cons (.ife (.cmp .Eq (.bin .Mod (.bin .FloorDiv (.call "_law_cell_at" (.cons (.v 0) (.cons (.ki 1) .nil))) (.ki 5)) (.ki 2)) (.ki 1)) (.cons (.set 2 (.bin .Add (.sl (.v 2) (.so (.ki 1)) .no) (.sl (.v 2) .no (.so (.ki 1)))) false) .nil) .nil) (.cons (.set 3 (.lc (.n 10) (.e (.call "_law_stream" (.cons (.call "_law_cell_at" (.cons (.v 0) (.cons (.ki 2) .nil))) (.cons (.v 1) .nil)))) .no (.bin .Add (.ki 1) (.bin .Mod (.v 10) (.ki 6)))) false) (.cons (.set 4 (.lc (.n 11) (.r1 (.v 1)) .no (.tup (.cons (.ix (.v 2) (.v 11)) (.cons (.ix (.v 3) (.v 11)) .nil)))) false) (.cons (.set 5 (.call "_law_parts" (.cons (.sl (.v 0) (.so (.ki 3)) (.so (.ki 9))) (.cons (.v 2) (.cons (.v 3) .nil)))) false) (.cons (.ife (.cmp .Eq (.bin .Mod (.bin .FloorDiv (.call "_law_cell_at" (.cons (.v 0) (.cons (.ki 0) .nil))) (.ki 5)) (.ki 2)) (.ki 1)) (.cons (.set 5 (.rvl (.sl (.v 5) .no (.so (.v 1)))) false) .nil) .nil) (.cons (.set 6 (.lst (.cons (.bi "list" (.cons (.v 4) .nil)) (.cons (.bi "list" (.cons (.v 5) .nil)) .nil))) false) (.cons (.set 7 (.ks "none") false) (.cons (.set 8 .kn false) (.cons (.try_ (.st 8 false "field_row" (.cons (.ix (.v 6) (.ki 0)) (.cons (.ix (.v 6) (.ki 1)) .nil))) [("Misfit", [(7, "misfit")]), ("NoField", [(7, "field")]), ("Twice", [(7, "twice")])] 9 [.word 7 "_law_word"]) (.cons (.ife (.cmp .NotEq (.tup (.cons (.v 7) (.cons (.v 8) .nil))) (.call "_law_due" (.cons (.v 4) (.cons (.v 5) .nil)))) (.cons (.ret (.kb false)) .nil) .nil) (.cons (.ife (.cmp .NotEq (.v 6) (.lst (.cons (.v 4) (.cons (.v 5) .nil)))) (.cons (.ret (.kb false)) .nil) .nil) (.cons (.ret (.cmp .Eq (.call "field_row" (.cons (.ix (.v 6) (.ki 0)) (.cons (.lst .nil) .nil))) (.bin .Mult (.ks "-") (.bi "sum" (.cons (.v 3) .nil))))) .nil))))))))))))))⟩
theorem fs11 : FnScope nm11 ["script"] (defScope st11) := ⟨rfl, rfl, rfl, by decide +kernel, rfl, by decide +kernel, by decide +kernel⟩
theorem ok11 : (decide (mf11.slots = nm11.length) && decide ((["script"] : List Str).length ≤ nm11.length) && okSs ex nm11 (defScope st11) mf11.body (defBody st11)) = true := by decide +kernel
def ft0 : FT := fun _ => none
def fu0 : List D → Nat := fun ds => 0
def fn0 : List D → R Rv := fun ds => runF ft0 (fu0 ds) mf0 ds
def ft1 : FT := put ft0 "_law_cell_at" 2 fn0
def fu1 : List D → Nat := fun ds => 0
def fn1 : List D → R Rv := fun ds => runF ft1 (fu1 ds) mf1 ds
def ft2 : FT := put ft1 "_law_stream" 2 fn1
def fu2 : List D → Nat := fun ds => 0
def fn2 : List D → R Rv := fun ds => runF ft2 (fu2 ds) mf2 ds
def ft3 : FT := put ft2 "_law_names" 2 fn2
def fu3 : List D → Nat := fun ds => 0
def fn3 : List D → R Rv := fun ds => runF ft3 (fu3 ds) mf3 ds
def ft4 : FT := put ft3 "_law_row" 3 fn3
def fu4 : List D → Nat := fun ds => 0
def fn4 : List D → R Rv := fun ds => runF ft4 (fu4 ds) mf4 ds
def ft5 : FT := put ft4 "_law_signs" 2 fn4
def fu5 : List D → Nat := fun ds => 0
def fn5 : List D → R Rv := fun ds => runF ft5 (fu5 ds) mf5 ds
def ft6 : FT := put ft5 "_law_parts" 3 fn5
def fu6 : List D → Nat := fun ds => 0
def fn6 : List D → R Rv := fun ds => runF ft6 (fu6 ds) mf6 ds
def ft7 : FT := put ft6 "field_span" 2 fn6
def fu7 : List D → Nat := fun ds => 0
def fn7 : List D → R Rv := fun ds => runF ft7 (fu7 ds) mf7 ds
def ft8 : FT := put ft7 "is_row" 2 fn7
def fu8 : List D → Nat := fun ds => 0
def fn8 : List D → R Rv := fun ds => runF ft8 (fu8 ds) mf8 ds
def ft9 : FT := put ft8 "field_row" 2 fn8
def fu9 : List D → Nat := fun ds => 0
def fn9 : List D → R Rv := fun ds => runF ft9 (fu9 ds) mf9 ds
def ft10 : FT := put ft9 "_law_is_row" 2 fn9
def fu10 : List D → Nat := fun ds => 0
def fn10 : List D → R Rv := fun ds => runF ft10 (fu10 ds) mf10 ds
def ft11 : FT := put ft10 "_law_due" 2 fn10
def fu11 : List D → Nat := fun ds => 0
def fn11 : List D → R Rv := fun ds => runF ft11 (fu11 ds) mf11 ds
theorem at2_1 : ft2 "_law_stream" = some (2, fn1) := put_self
theorem at3_1 : ft3 "_law_stream" = some (2, fn1) := (put_ne (by decide)).trans (put_self)
theorem at4_3 : ft4 "_law_row" = some (3, fn3) := put_self
theorem at5_4 : ft5 "_law_signs" = some (2, fn4) := put_self
theorem at8_6 : ft8 "field_span" = some (2, fn6) := (put_ne (by decide)).trans (put_self)
theorem at8_7 : ft8 "is_row" = some (2, fn7) := put_self
theorem at10_9 : ft10 "_law_is_row" = some (2, fn9) := put_self
theorem at11_0 : ft11 "_law_cell_at" = some (2, fn0) := (put_ne (by decide)).trans ((put_ne (by decide)).trans ((put_ne (by decide)).trans ((put_ne (by decide)).trans ((put_ne (by decide)).trans ((put_ne (by decide)).trans ((put_ne (by decide)).trans ((put_ne (by decide)).trans ((put_ne (by decide)).trans ((put_ne (by decide)).trans (put_self))))))))))
theorem at11_2 : ft11 "_law_names" = some (2, fn2) := (put_ne (by decide)).trans ((put_ne (by decide)).trans ((put_ne (by decide)).trans ((put_ne (by decide)).trans ((put_ne (by decide)).trans ((put_ne (by decide)).trans ((put_ne (by decide)).trans ((put_ne (by decide)).trans (put_self))))))))
theorem at11_1 : ft11 "_law_stream" = some (2, fn1) := (put_ne (by decide)).trans ((put_ne (by decide)).trans ((put_ne (by decide)).trans ((put_ne (by decide)).trans ((put_ne (by decide)).trans ((put_ne (by decide)).trans ((put_ne (by decide)).trans ((put_ne (by decide)).trans ((put_ne (by decide)).trans (put_self)))))))))
theorem at11_5 : ft11 "_law_parts" = some (3, fn5) := (put_ne (by decide)).trans ((put_ne (by decide)).trans ((put_ne (by decide)).trans ((put_ne (by decide)).trans ((put_ne (by decide)).trans (put_self)))))
theorem at11_8 : ft11 "field_row" = some (2, fn8) := (put_ne (by decide)).trans ((put_ne (by decide)).trans (put_self))
theorem at11_10 : ft11 "_law_due" = some (2, fn10) := put_self
end K16
set_option Elab.async false
set_option linter.all false
set_option maxRecDepth 100000
set_option maxHeartbeats 4000000
namespace K16
open PySem L2 En
theorem law_true (ns : List Int) (hns : ns.length ≤ 63) : fn11 [.list (ns.map .int)] = .ok (.fr false (.bool true)) := by
  have cl : ∀ k : Int, 0 ≤ k → fn0 [.list (ns.map .int), .int k] = .ok (.fr false (.int (M.cellI ns k))) := fun k h => M.cell_eq ns k h
  have main : RS (fun _ => False) (fn11 [.list (ns.map .int)]) fun v => v = .fr false (.bool true) := by
    refine rs_run ?_
    obtain ⟨G, hG⟩ : ∃ G : List Sl → Prop, ∀ e, G e = ∃ (many : Nat) (ds : List Tx), 1 ≤ many ∧ many ≤ 5 ∧ ds.length = many + 1 ∧ (∀ d ∈ ds, Sm d) ∧ ds.Nodup ∧ e = [.fr true (.list (ns.map .int)), .fr false (.int (many : Int)), .fr false (.list (ds.map tx)), .no, .no, .no, .no, .no, .no, .no, .no, .no] := ⟨_, fun _ => rfl⟩
    refine fs_at 3 G ?_ ?_
    · obtain ⟨many, hm, hm2⟩ : ∃ many : Nat, (many : Int) = 1 + M.cellI ns 0 % 5 ∧ 1 ≤ many ∧ many ≤ 5 := ⟨(1 + M.cellI ns 0 % 5).toNat, by omega, by omega, by omega⟩
      simp [-fs_if, -rs_bopA, mf11, takeS, startE, e_call at11_0, cl, e_call at11_2, En.mod_int, ← hm]
      rw [show ((many : Int) + 1) = ((many + 1 : Nat) : Int) by omega]
      refine M.namesN_ok (Γ := ft2) ⟨ft1, 0, at2_1⟩ _ (many + 1) (by omega) fun ds h1 h2 h3 => ?_
      have hl : (ds.map tx).length = many + 1 := by rw [List.length_map, h1]
      have nx : ∀ ds : List Tx, ds.length = many + 1 → (∀ d ∈ ds, Sm d) → ds.Nodup → G [.fr true (.list (ns.map .int)), .fr false (.int (many : Int)), .fr false (.list (ds.map tx)), .no, .no, .no, .no, .no, .no, .no, .no, .no] := fun ds a b c => by
        rw [hG]
        exact ⟨many, ds, hm2.1, hm2.2, a, b, c, rfl⟩
      have c1 : cutL (ds.map tx) (some 1) none = (ds.drop 1).map tx := by
        rw [show (1 : Int) = ((1 : Nat) : Int) from rfl, cut_from, List.map_drop]
      have c2 : cutL (ds.map tx) none (some 1) = (ds.take 1).map tx := by
        rw [show (1 : Int) = ((1 : Nat) : Int) from rfl, cut_to, List.map_take]
      simp [-fs_if, e_call at11_0, cl, En.mod_int, En.div_int, h1, c1, c2]
      rw [fs_if]
      refine ⟨fun _ => ?_, fun _ => ?_⟩
      · have ha : semBin .Add (.list (ds.map tx).tail) (.list ((ds.map tx).take 1)) = some (true, .list ((ds.tail ++ ds.take 1).map tx)) := by
          rw [add_list (sz _ (by simp; omega))]
          simp
        simp only [ha]
        simp
        have := nx (ds.tail ++ ds.take 1) (by simp; omega) (fun d h => by
          rcases List.mem_append.mp h with h | h
          · exact h2 d (List.mem_of_mem_tail h)
          · exact h2 d (List.mem_of_mem_take h)) (by
          rw [List.nodup_append]
          cases ds with
          | nil => simp
          | cons d ds =>
            have h3 := List.nodup_cons.mp h3
            exact ⟨h3.2, by simp, fun a ha b hb e => h3.1 (by simp at hb; rw [← hb, ← e]; exact ha)⟩)
        simpa using this
      · rw [fs_next]
        exact nx ds h1 h2 h3
    · intro e h
      rw [hG] at h
      obtain ⟨many, ds, hm1, hm2, hl, hs, hn, rfl⟩ := h
      simp [-fs_if, -rs_bopO, mf11, dropS, e_call at11_0, cl, e_call at11_1]
      refine M.stream_okN (Γ := ft1) _ many (by omega) fun st hst hpos => ?_
      simp [-fs_if, -rs_bopO]
      refine rs_lc (fun i m L => m = false ∧ ∃ zs : List Nat, L = (zs.map fun z : Nat => PyData.int (z : Int)) ∧ zs.length = i ∧ ∀ z ∈ zs, 1 ≤ z ∧ z ≤ 6) ⟨rfl, [], rfl, rfl, by simp⟩ (fun i d m L hd' h => ?_) (fun m L h => ?_)
      · obtain ⟨rfl, zs, rfl, hz, hd⟩ := h
        obtain ⟨hi, rfl⟩ := map_at hd'
        obtain ⟨z, hz', hz2⟩ : ∃ z : Nat, (z : Int) = 1 + st[i] % 6 ∧ 1 ≤ z ∧ z ≤ 6 := ⟨(1 + st[i] % 6).toNat, by omega, by omega, by omega⟩
        simp [lcT, En.mod_int, ← hz']
        exact ⟨zs ++ [z], by simp, by simp [hz], fun x hx => by
          rcases List.mem_append.mp hx with hx | hx
          · exact hd x hx
          · rw [List.mem_singleton.mp hx]; omega⟩
      obtain ⟨rfl, zs, rfl, hz, hz2⟩ := h
      have hz : zs.length = many := by simpa [hst] using hz
      refine ⟨sz _ (by first | omega | (simp; omega)), ?_⟩
      have many62 : rg1 (.int (many : Int)) = .ok (false, rngD 0 many) := rg1_nat many (by omega)
      obtain ⟨ps, hp1, hp2, hpl⟩ : ∃ ps : List Fd, ps.map (·.1) = ds.take many ∧ ps.map (·.2) = zs ∧ ps.length = many := by
        have h1 : (ds.take many).length = many := by rw [List.length_take]; omega
        exact ⟨(ds.take many).zip zs, List.map_fst_zip (by omega), List.map_snd_zip (by omega), by rw [List.length_zip]; omega⟩
      have atd : ∀ i (hi : i < ps.length), semIx (.list (ds.map tx)) (.int (i : Int)) = some (tx ps[i].1) := fun i hi => ix_list (by
        have h1 : (ps.map (·.1))[i]? = some ps[i].1 := by rw [List.getElem?_map, List.getElem?_eq_getElem hi]; rfl
        rw [hp1, List.getElem?_take_of_lt (by omega)] at h1
        rw [List.getElem?_map, h1]
        rfl)
      have atz : ∀ i (hi : i < ps.length), semIx (.list (zs.map fun z : Nat => .int (z : Int))) (.int (i : Int)) = some (.int (ps[i].2 : Int)) := fun i hi => ix_list (by
        have h1 : (ps.map (·.2))[i]? = some ps[i].2 := by rw [List.getElem?_map, List.getElem?_eq_getElem hi]; rfl
        rw [hp2] at h1
        rw [List.getElem?_map, h1]
        rfl)
      have hw : zs.sum = wid ps := by rw [← hp2]; rfl
      have hw9 : wid ps ≤ 320 := by
        rw [← hw]
        have : ∀ l : List Nat, (∀ z ∈ l, 1 ≤ z ∧ z ≤ 6) → l.sum ≤ 40 * l.length := fun l => by
          induction l with
          | nil => simp
          | cons a l ih =>
            intro h
            have h1 := h a List.mem_cons_self
            have h2 := ih fun z hz => h z (List.mem_cons_of_mem _ hz)
            simp only [List.sum_cons, List.length_cons]
            omega
        have := this zs hz2
        omega
      have hnd : (ps.map (·.1)).Nodup := by rw [hp1]; exact hn.sublist (List.take_sublist _ _)
      simp [-fs_if, -rs_bopO]
      rw [many62, rs_ok]
      refine rs_lc (fun i m L => m = false ∧ L = (ps.take i).map fl) ⟨rfl, rfl⟩ (fun i d m L hd' h => ?_) (fun m L h => ?_)
      · obtain ⟨rfl, rfl⟩ := h
        obtain ⟨hi, rfl⟩ := rngD_at hd'
        have hi : i < ps.length := by omega
        have e := take_get (l := ps) (List.getElem?_eq_getElem hi)
        have e1 := atd i hi
        have e2 := atz i hi
        generalize ps[i] = p at *
        generalize ps.take (i + 1) = T at *
        subst e
        generalize ps.take i = T at *
        simp [lcT, e1, e2, fl]
        exact sz _ (by decide)
      · obtain ⟨rfl, rfl⟩ := h
        have hr : (rngD 0 many).length = many := by simp [rngD]
        have ht : ps.take many = ps := List.take_of_length_le (by omega)
        rw [hr, ht]
        refine ⟨sz _ (by omega), ?_⟩
        have hcl := cut_le ns (some 3) (some 9)
        simp [-fs_if, -rs_bopO, e_call at11_5, cut_map]
        refine M.lawParts_ok (Γ := ft5) ⟨ft4, 0, ⟨ft3, 0, ⟨ft1, 0, at3_1⟩, at4_3⟩, at5_4⟩ (cutL ns (some 3) (some 9)) (by omega) ds zs (by omega) (by omega) hs (fun z h => by have := hz2 z h; omega) fun l hll hlp => ?_
        simp [-fs_if, -rs_bopO, e_call at11_0, cl, En.mod_int, En.div_int]
        refine fs_cut (fun e => ∃ l : List Pt, l.length ≤ 63 ∧ (∀ p ∈ l, Sm p.1 ∧ Th p.2) ∧ e = [.fr true (.list (ns.map .int)), .fr false (.int (many : Int)), .fr false (.list (ds.map tx)), .fr false (.list (zs.map fun z : Nat => .int (z : Int))), .fr false (.list (ps.map fl)), .fr false (.list (l.map pt)), .no, .no, .no, .no, .no, .no]) (fun _ => ?_) (fun _ => ?_) (fun e h => ?_)
        · have ct : cutL (l.map pt) none (some (many : Int)) = (l.take many).map pt := by rw [cut_to, List.map_take]
          simp [ct, -List.map_take]
          exact ⟨(l.take many).reverse, by rw [List.length_reverse, List.length_take]; omega, fun x d h => hlp (x, d) (List.mem_of_mem_take (List.mem_reverse.mp h)), by simp⟩
        · rw [fs_next]
          exact ⟨l, by omega, hlp, rfl⟩
        clear hll hlp l
        obtain ⟨l, hll, hlp, rfl⟩ := h
        have hs1 : ∀ p ∈ ps, Sm p.1 := fun p hp => hs _ (by
          have : p.1 ∈ ps.map (·.1) := List.mem_map_of_mem hp
          rw [hp1] at this
          exact List.mem_of_mem_take this)
        have ncA : Nc 2 (.list (ps.map fl)) := nc_list (k := 1) fun d hd => by
          obtain ⟨p, hp, rfl⟩ := List.mem_map.mp hd
          exact nc_fl (hs1 p hp)
        have ncB : Nc 3 (.list (l.map pt)) := nc_list (k := 2) fun d hd => by
          obtain ⟨p, hp, rfl⟩ := List.mem_map.mp hd
          exact nc_pt (hlp p hp).1 (hlp p hp).2
        have eqh : eqO (.list [.list (ps.map fl), .list (l.map pt)]) (.list [.list (ps.map fl), .list (l.map pt)]) = some true := eq_same ((nc_list (k := 3) fun d hd => by
          simp only [List.mem_cons, List.not_mem_nil, or_false] at hd
          rcases hd with rfl | rfl
          · exact ⟨ncA.1, Nat.le_trans ncA.2 (by decide)⟩
          · exact ncB).shp (by decide))
        have i0 : ∀ x y : D, semIx (.list [x, y]) (.int 0) = some x := fun x y => ix_list (i := 0) rfl
        have i1 : ∀ x y : D, semIx (.list [x, y]) (.int 1) = some y := fun x y => ix_list (i := 1) rfl
        have fs7 : M.FieldSpanAt ft8 := ⟨ft6, 0, at8_6⟩
        have ir7 : M.IsRowPAt ft8 := ⟨ft7, 0, at8_7⟩
        have fr : ∀ l : List Pt, l.length ≤ 63 → (∀ p ∈ l, Sm p.1 ∧ Th p.2) → (∃ s, procP ps l = .ok s ∧ fn8 [.list (ps.map fl), .list (l.map pt)] = .ok (.fr false (tx (rowF ps s).flatten))) ∨ ∃ x, procP ps l = .error x ∧ fn8 [.list (ps.map fl), .list (l.map pt)] = .err x := fun l h1 h2 => by
          have h := M.fieldRow_ok (Γ := ft8) (n := 0) fs7 ir7 ps hnd (by omega) (by omega) l (by omega) fun p hp => (h2 p hp).2
          have h : RS (fun x => procP ps l = .error x) (fn8 [.list (ps.map fl), .list (l.map pt)]) fun v => ∃ s, procP ps l = .ok s ∧ v = .fr false (tx (rowF ps s).flatten) := h
          cases e : fn8 [.list (ps.map fl), .list (l.map pt)] with
          | ok a =>
            rw [e, rs_ok] at h
            obtain ⟨s, hp, rfl⟩ := h
            exact .inl ⟨s, hp, rfl⟩
          | err x => rw [e, rs_err] at h; exact .inr ⟨x, h, rfl⟩
          | bad => rw [e, rs_bad] at h; exact h.elim
        have du : fn10 [.list (ps.map fl), .list (l.map pt)] = .ok (.fr false (M.dueD ps l)) := M.lawDue_eq (Γ := ft10) ⟨ft9, 0, at10_9⟩ ps hnd (by omega) (by omega) l (by omega) fun p hp => (hlp p hp).2
        have last : ∃ r, fn8 [.list (ps.map fl), .list []] = .ok (.fr false (tx r)) ∧ r = List.replicate (wid ps) 45 := by
          rcases fr [] (by simp) (by simp) with ⟨s, h1, h2⟩ | ⟨x, h1, h2⟩
          · have h1 : (Except.ok [] : Except Str Sn) = .ok s := h1
            cases h1
            refine ⟨_, h2, ?_⟩
            rw [List.eq_replicate_iff]
            refine ⟨?_, fun c hc => ?_⟩
            · rw [List.length_flatten, rowF_len (s := []) (fun p hp => (nomatch hp)) hnd]
              rfl
            · obtain ⟨r, hr, hcr⟩ := List.mem_flatten.mp hc
              obtain ⟨p, _, rfl⟩ := List.mem_map.mp hr
              exact List.eq_of_mem_replicate hcr
          · have h1 : (Except.ok [] : Except Str Sn) = .error x := h1
            cases h1
        obtain ⟨lr, hlr, rfl⟩ := last
        have e2 : ∀ a : Tx, Sm a → eqO (.tuple [tx a, .none]) (.tuple [tx a, .none]) = some true := fun a ha => eq_same ((nc_two (nc_sm ha) nc_none).shp (by decide))
        have e3 : ∀ a b : Tx, Sm a → Sm b → eqO (.tuple [tx a, tx b]) (.tuple [tx a, tx b]) = some true := fun a b ha hb => eq_same ((nc_two (nc_sm ha) (nc_sm hb)).shp (by decide))
        have sf : Sm [102, 105, 101, 108, 100] := by unfold Sm; decide
        have stw : Sm [116, 119, 105, 99, 101] := by unfold Sm; decide
        have smf : Sm [109, 105, 115, 102, 105, 116] := by unfold Sm; decide
        have sno : Sm [110, 111, 110, 101] := by unfold Sm; decide
        have dsh := dashes (n := wid ps) (by omega)
        have lkNoField : List.lookup (Str.ofString "NoField") [(Str.ofString "Misfit", [((7 : Nat), Str.ofString "misfit")]), (Str.ofString "NoField", [(7, Str.ofString "field")]), (Str.ofString "Twice", [(7, Str.ofString "twice")])] = some [(7, Str.ofString "field")] := by decide +kernel
        have lkTwice : List.lookup (Str.ofString "Twice") [(Str.ofString "Misfit", [((7 : Nat), Str.ofString "misfit")]), (Str.ofString "NoField", [(7, Str.ofString "field")]), (Str.ofString "Twice", [(7, Str.ofString "twice")])] = some [(7, Str.ofString "twice")] := by decide +kernel
        have lkMisfit : List.lookup (Str.ofString "Misfit") [(Str.ofString "Misfit", [((7 : Nat), Str.ofString "misfit")]), (Str.ofString "NoField", [(7, Str.ofString "field")]), (Str.ofString "Twice", [(7, Str.ofString "twice")])] = some [(7, Str.ofString "misfit")] := by decide +kernel
        rcases fr l hll hlp with ⟨s, h1, h2⟩ | ⟨x, h1, h2⟩
        · have hso := rowF_sm (proc_ok _ h1).1
          simp [i0, i1, c_r at11_8, h2, e_call at11_10, du, M.dueD, h1, e3 _ _ sno hso, eqh, e_call at11_8, hlr, sum_nats, hw, dsh, sz 2 (by decide)]
        · rcases proc_err h1 with rfl | rfl | rfl
          · simp [i0, i1, c_r at11_8, h2, e_call at11_10, du, M.dueD, h1, M.word_f, e2 _ sf, eqh, e_call at11_8, hlr, sum_nats, hw, dsh, sz 2 (by decide), lkNoField]
          · simp [i0, i1, c_r at11_8, h2, e_call at11_10, du, M.dueD, h1, M.word_t, e2 _ stw, eqh, e_call at11_8, hlr, sum_nats, hw, dsh, sz 2 (by decide), lkTwice]
          · simp [i0, i1, c_r at11_8, h2, e_call at11_10, du, M.dueD, h1, M.word_m, e2 _ smf, eqh, e_call at11_8, hlr, sum_nats, hw, dsh, sz 2 (by decide), lkMisfit]
  obtain ⟨a, e, rfl⟩ := rs_eq main
  exact e
end K16
set_option Elab.async false
set_option linter.all false
set_option maxRecDepth 100000
set_option maxHeartbeats 4000000
namespace K16
open PySem PySem.Spec PyProof.Rows L2 En
section
variable {P : Program} {w : World} {K : PySem.W.Frag} {mg : Str → Option Value} {base : Heap}
theorem fns (h0 : Has K mg "_law_cell_at" st0 ["script", "k"]) (h1 : Has K mg "_law_stream" st1 ["cell", "many"]) (h2 : Has K mg "_law_names" st2 ["cell", "many"]) (h3 : Has K mg "_law_row" st3 ["cell", "width", "loose"]) (h4 : Has K mg "_law_signs" st4 ["cell", "size"]) (h5 : Has K mg "_law_parts" st5 ["cells", "names", "sizes"]) (h6 : Has K mg "field_span" st6 ["layout", "name"]) (h7 : Has K mg "is_row" st7 ["thing", "width"]) (h8 : Has K mg "field_row" st8 ["layout", "parts"]) (h9 : Has K mg "_law_is_row" st9 ["found", "width"]) (h10 : Has K mg "_law_due" st10 ["layout", "parts"]) (rzx : RzOk ex mg P w K base) (blt : Blt mg) : FnsOk P w K mg base 33 ft11 := by
  have g1 : FnsOk P w K mg base 3 ft1 := fns_put (k := 0) fns0 h0 fs0 mf0 fu0 ok0 blt rz0
  have g2 : FnsOk P w K mg base 6 ft2 := fns_put (k := 3) g1 h1 fs1 mf1 fu1 ok1 blt rz0
  have g3 : FnsOk P w K mg base 9 ft3 := fns_put (k := 6) g2 h2 fs2 mf2 fu2 ok2 blt rz0
  have g4 : FnsOk P w K mg base 12 ft4 := fns_put (k := 9) g3 h3 fs3 mf3 fu3 ok3 blt rz0
  have g5 : FnsOk P w K mg base 15 ft5 := fns_put (k := 12) g4 h4 fs4 mf4 fu4 ok4 blt rz0
  have g6 : FnsOk P w K mg base 18 ft6 := fns_put (k := 15) g5 h5 fs5 mf5 fu5 ok5 blt rz0
  have g7 : FnsOk P w K mg base 21 ft7 := fns_put (k := 18) g6 h6 fs6 mf6 fu6 ok6 blt rzx
  have g8 : FnsOk P w K mg base 24 ft8 := fns_put (k := 21) g7 h7 fs7 mf7 fu7 ok7 blt rz0
  have g9 : FnsOk P w K mg base 27 ft9 := fns_put (k := 24) g8 h8 fs8 mf8 fu8 ok8 blt rzx
  have g10 : FnsOk P w K mg base 30 ft10 := fns_put (k := 27) g9 h9 fs9 mf9 fu9 ok9 blt rz0
  have g11 : FnsOk P w K mg base 33 ft11 := fns_put (k := 30) g10 h10 fs10 mf10 fu10 ok10 blt rz0
  exact g11
end
theorem V_Misfit {K : PySem.W.Frag} {mg : Str → Option Value} {D D_Misfit D_Twice D_NoField D_NoRule D_NoWay D_NoDoor D_NoHouse D_NoLine D_BadWord D_Unlike : Addr}
    (m_Misfit : mg "Misfit" = some (.ref D_Misfit)) (k_Misfit : PySem.W.kitOne K (.ref D) (.ref D_Misfit) = some true)
    (m_Twice : mg "Twice" = some (.ref D_Twice)) (k_Twice : PySem.W.kitOne K (.ref D) (.ref D_Twice) = some false)
    (m_NoField : mg "NoField" = some (.ref D_NoField)) (k_NoField : PySem.W.kitOne K (.ref D) (.ref D_NoField) = some false)
    (m_NoRule : mg "NoRule" = some (.ref D_NoRule)) (k_NoRule : PySem.W.kitOne K (.ref D) (.ref D_NoRule) = some false)
    (m_NoWay : mg "NoWay" = some (.ref D_NoWay)) (k_NoWay : PySem.W.kitOne K (.ref D) (.ref D_NoWay) = some false)
    (m_NoDoor : mg "NoDoor" = some (.ref D_NoDoor)) (k_NoDoor : PySem.W.kitOne K (.ref D) (.ref D_NoDoor) = some false)
    (m_NoHouse : mg "NoHouse" = some (.ref D_NoHouse)) (k_NoHouse : PySem.W.kitOne K (.ref D) (.ref D_NoHouse) = some false)
    (m_NoLine : mg "NoLine" = some (.ref D_NoLine)) (k_NoLine : PySem.W.kitOne K (.ref D) (.ref D_NoLine) = some false)
    (m_BadWord : mg "BadWord" = some (.ref D_BadWord)) (k_BadWord : PySem.W.kitOne K (.ref D) (.ref D_BadWord) = some false)
    (m_Unlike : mg "Unlike" = some (.ref D_Unlike)) (k_Unlike : PySem.W.kitOne K (.ref D) (.ref D_Unlike) = some false)
    (mV : mg "ValueError" = none) (kV : PySem.W.kitOne K (.ref D) (.type "ValueError") = some true) : ValOk mg K D val_Misfit := by
  intro c b h
  unfold val_Misfit at h
  split at h
  · rename_i e; subst e; cases h; exact ⟨.ref D_Misfit, .ref D_Misfit, .inl m_Misfit, rfl, fun u r => r, k_Misfit⟩
  split at h
  · rename_i e; subst e; cases h; exact ⟨.ref D_Twice, .ref D_Twice, .inl m_Twice, rfl, fun u r => r, k_Twice⟩
  split at h
  · rename_i e; subst e; cases h; exact ⟨.ref D_NoField, .ref D_NoField, .inl m_NoField, rfl, fun u r => r, k_NoField⟩
  split at h
  · rename_i e; subst e; cases h; exact ⟨.ref D_NoRule, .ref D_NoRule, .inl m_NoRule, rfl, fun u r => r, k_NoRule⟩
  split at h
  · rename_i e; subst e; cases h; exact ⟨.ref D_NoWay, .ref D_NoWay, .inl m_NoWay, rfl, fun u r => r, k_NoWay⟩
  split at h
  · rename_i e; subst e; cases h; exact ⟨.ref D_NoDoor, .ref D_NoDoor, .inl m_NoDoor, rfl, fun u r => r, k_NoDoor⟩
  split at h
  · rename_i e; subst e; cases h; exact ⟨.ref D_NoHouse, .ref D_NoHouse, .inl m_NoHouse, rfl, fun u r => r, k_NoHouse⟩
  split at h
  · rename_i e; subst e; cases h; exact ⟨.ref D_NoLine, .ref D_NoLine, .inl m_NoLine, rfl, fun u r => r, k_NoLine⟩
  split at h
  · rename_i e; subst e; cases h; exact ⟨.ref D_BadWord, .ref D_BadWord, .inl m_BadWord, rfl, fun u r => r, k_BadWord⟩
  split at h
  · rename_i e; subst e; cases h; exact ⟨.ref D_Unlike, .ref D_Unlike, .inl m_Unlike, rfl, fun u r => r, k_Unlike⟩
  split at h
  · rename_i e; subst e; cases h; exact ⟨.ty "ValueError", .type "ValueError", .inr ⟨mV, by decide +kernel⟩, rfl, fun u r => r, kV⟩
  cases h
theorem F_Misfit {P : Program} {w : World} {K : PySem.W.Frag} {mg : Str → Option Value} {base : Heap} {D : Addr} (C : ExcC K D) (V : ValOk mg K D val_Misfit)
    {D_ThrongError : Addr} (mT_ThrongError : mg "ThrongError" = some (.ref D_ThrongError)) (xT_ThrongError : PySem.W.exmOne K (.ref D) (.ref D_ThrongError) = some true)
    {fw0 : Addr} {fd0 : FuncData} (FW0 : Fun K "_law_word" "_law_word" stW0 fw0 fd0) (blt : mg "isinstance" = none) (mw0 : mg "_law_word" = some (.ref fw0)) (bw0 : Binds K fd0 ["e"] [])
    : XFact ex mg P w K base "Misfit" D := by
  refine ⟨C, V, fun T b h cT hT => ?_, fun f z h => ?_⟩
  · replace h : cat_Misfit T = some b := h
    unfold cat_Misfit at h
    split at h
    · rename_i e; subst e; cases h; have e2 := hT.symm.trans mT_ThrongError; cases e2; exact xT_ThrongError
    cases h
  · replace h : wd_Misfit f = some z := h
    unfold wd_Misfit at h
    split at h
    · rename_i e; subst e; cases h; exact ⟨fw0, _, _, word_fn (k := 0) FW0 fsW0 rfl rfl okW0 blt C V ev0_Misfit (by decide) (by decide), mw0, FW0.kp, bw0⟩
    cases h
theorem V_NoField {K : PySem.W.Frag} {mg : Str → Option Value} {D D_Misfit D_Twice D_NoField D_NoRule D_NoWay D_NoDoor D_NoHouse D_NoLine D_BadWord D_Unlike : Addr}
    (m_Misfit : mg "Misfit" = some (.ref D_Misfit)) (k_Misfit : PySem.W.kitOne K (.ref D) (.ref D_Misfit) = some false)
    (m_Twice : mg "Twice" = some (.ref D_Twice)) (k_Twice : PySem.W.kitOne K (.ref D) (.ref D_Twice) = some false)
    (m_NoField : mg "NoField" = some (.ref D_NoField)) (k_NoField : PySem.W.kitOne K (.ref D) (.ref D_NoField) = some true)
    (m_NoRule : mg "NoRule" = some (.ref D_NoRule)) (k_NoRule : PySem.W.kitOne K (.ref D) (.ref D_NoRule) = some false)
    (m_NoWay : mg "NoWay" = some (.ref D_NoWay)) (k_NoWay : PySem.W.kitOne K (.ref D) (.ref D_NoWay) = some false)
    (m_NoDoor : mg "NoDoor" = some (.ref D_NoDoor)) (k_NoDoor : PySem.W.kitOne K (.ref D) (.ref D_NoDoor) = some false)
    (m_NoHouse : mg "NoHouse" = some (.ref D_NoHouse)) (k_NoHouse : PySem.W.kitOne K (.ref D) (.ref D_NoHouse) = some false)
    (m_NoLine : mg "NoLine" = some (.ref D_NoLine)) (k_NoLine : PySem.W.kitOne K (.ref D) (.ref D_NoLine) = some false)
    (m_BadWord : mg "BadWord" = some (.ref D_BadWord)) (k_BadWord : PySem.W.kitOne K (.ref D) (.ref D_BadWord) = some false)
    (m_Unlike : mg "Unlike" = some (.ref D_Unlike)) (k_Unlike : PySem.W.kitOne K (.ref D) (.ref D_Unlike) = some false)
    (mV : mg "ValueError" = none) (kV : PySem.W.kitOne K (.ref D) (.type "ValueError") = some true) : ValOk mg K D val_NoField := by
  intro c b h
  unfold val_NoField at h
  split at h
  · rename_i e; subst e; cases h; exact ⟨.ref D_Misfit, .ref D_Misfit, .inl m_Misfit, rfl, fun u r => r, k_Misfit⟩
  split at h
  · rename_i e; subst e; cases h; exact ⟨.ref D_Twice, .ref D_Twice, .inl m_Twice, rfl, fun u r => r, k_Twice⟩
  split at h
  · rename_i e; subst e; cases h; exact ⟨.ref D_NoField, .ref D_NoField, .inl m_NoField, rfl, fun u r => r, k_NoField⟩
  split at h
  · rename_i e; subst e; cases h; exact ⟨.ref D_NoRule, .ref D_NoRule, .inl m_NoRule, rfl, fun u r => r, k_NoRule⟩
  split at h
  · rename_i e; subst e; cases h; exact ⟨.ref D_NoWay, .ref D_NoWay, .inl m_NoWay, rfl, fun u r => r, k_NoWay⟩
  split at h
  · rename_i e; subst e; cases h; exact ⟨.ref D_NoDoor, .ref D_NoDoor, .inl m_NoDoor, rfl, fun u r => r, k_NoDoor⟩
  split at h
  · rename_i e; subst e; cases h; exact ⟨.ref D_NoHouse, .ref D_NoHouse, .inl m_NoHouse, rfl, fun u r => r, k_NoHouse⟩
  split at h
  · rename_i e; subst e; cases h; exact ⟨.ref D_NoLine, .ref D_NoLine, .inl m_NoLine, rfl, fun u r => r, k_NoLine⟩
  split at h
  · rename_i e; subst e; cases h; exact ⟨.ref D_BadWord, .ref D_BadWord, .inl m_BadWord, rfl, fun u r => r, k_BadWord⟩
  split at h
  · rename_i e; subst e; cases h; exact ⟨.ref D_Unlike, .ref D_Unlike, .inl m_Unlike, rfl, fun u r => r, k_Unlike⟩
  split at h
  · rename_i e; subst e; cases h; exact ⟨.ty "ValueError", .type "ValueError", .inr ⟨mV, by decide +kernel⟩, rfl, fun u r => r, kV⟩
  cases h
theorem F_NoField {P : Program} {w : World} {K : PySem.W.Frag} {mg : Str → Option Value} {base : Heap} {D : Addr} (C : ExcC K D) (V : ValOk mg K D val_NoField)
    {D_ThrongError : Addr} (mT_ThrongError : mg "ThrongError" = some (.ref D_ThrongError)) (xT_ThrongError : PySem.W.exmOne K (.ref D) (.ref D_ThrongError) = some true)
    {fw0 : Addr} {fd0 : FuncData} (FW0 : Fun K "_law_word" "_law_word" stW0 fw0 fd0) (blt : mg "isinstance" = none) (mw0 : mg "_law_word" = some (.ref fw0)) (bw0 : Binds K fd0 ["e"] [])
    : XFact ex mg P w K base "NoField" D := by
  refine ⟨C, V, fun T b h cT hT => ?_, fun f z h => ?_⟩
  · replace h : cat_NoField T = some b := h
    unfold cat_NoField at h
    split at h
    · rename_i e; subst e; cases h; have e2 := hT.symm.trans mT_ThrongError; cases e2; exact xT_ThrongError
    cases h
  · replace h : wd_NoField f = some z := h
    unfold wd_NoField at h
    split at h
    · rename_i e; subst e; cases h; exact ⟨fw0, _, _, word_fn (k := 0) FW0 fsW0 rfl rfl okW0 blt C V ev0_NoField (by decide) (by decide), mw0, FW0.kp, bw0⟩
    cases h
theorem V_Twice {K : PySem.W.Frag} {mg : Str → Option Value} {D D_Misfit D_Twice D_NoField D_NoRule D_NoWay D_NoDoor D_NoHouse D_NoLine D_BadWord D_Unlike : Addr}
    (m_Misfit : mg "Misfit" = some (.ref D_Misfit)) (k_Misfit : PySem.W.kitOne K (.ref D) (.ref D_Misfit) = some false)
    (m_Twice : mg "Twice" = some (.ref D_Twice)) (k_Twice : PySem.W.kitOne K (.ref D) (.ref D_Twice) = some true)
    (m_NoField : mg "NoField" = some (.ref D_NoField)) (k_NoField : PySem.W.kitOne K (.ref D) (.ref D_NoField) = some false)
    (m_NoRule : mg "NoRule" = some (.ref D_NoRule)) (k_NoRule : PySem.W.kitOne K (.ref D) (.ref D_NoRule) = some false)
    (m_NoWay : mg "NoWay" = some (.ref D_NoWay)) (k_NoWay : PySem.W.kitOne K (.ref D) (.ref D_NoWay) = some false)
    (m_NoDoor : mg "NoDoor" = some (.ref D_NoDoor)) (k_NoDoor : PySem.W.kitOne K (.ref D) (.ref D_NoDoor) = some false)
    (m_NoHouse : mg "NoHouse" = some (.ref D_NoHouse)) (k_NoHouse : PySem.W.kitOne K (.ref D) (.ref D_NoHouse) = some false)
    (m_NoLine : mg "NoLine" = some (.ref D_NoLine)) (k_NoLine : PySem.W.kitOne K (.ref D) (.ref D_NoLine) = some false)
    (m_BadWord : mg "BadWord" = some (.ref D_BadWord)) (k_BadWord : PySem.W.kitOne K (.ref D) (.ref D_BadWord) = some false)
    (m_Unlike : mg "Unlike" = some (.ref D_Unlike)) (k_Unlike : PySem.W.kitOne K (.ref D) (.ref D_Unlike) = some false)
    (mV : mg "ValueError" = none) (kV : PySem.W.kitOne K (.ref D) (.type "ValueError") = some true) : ValOk mg K D val_Twice := by
  intro c b h
  unfold val_Twice at h
  split at h
  · rename_i e; subst e; cases h; exact ⟨.ref D_Misfit, .ref D_Misfit, .inl m_Misfit, rfl, fun u r => r, k_Misfit⟩
  split at h
  · rename_i e; subst e; cases h; exact ⟨.ref D_Twice, .ref D_Twice, .inl m_Twice, rfl, fun u r => r, k_Twice⟩
  split at h
  · rename_i e; subst e; cases h; exact ⟨.ref D_NoField, .ref D_NoField, .inl m_NoField, rfl, fun u r => r, k_NoField⟩
  split at h
  · rename_i e; subst e; cases h; exact ⟨.ref D_NoRule, .ref D_NoRule, .inl m_NoRule, rfl, fun u r => r, k_NoRule⟩
  split at h
  · rename_i e; subst e; cases h; exact ⟨.ref D_NoWay, .ref D_NoWay, .inl m_NoWay, rfl, fun u r => r, k_NoWay⟩
  split at h
  · rename_i e; subst e; cases h; exact ⟨.ref D_NoDoor, .ref D_NoDoor, .inl m_NoDoor, rfl, fun u r => r, k_NoDoor⟩
  split at h
  · rename_i e; subst e; cases h; exact ⟨.ref D_NoHouse, .ref D_NoHouse, .inl m_NoHouse, rfl, fun u r => r, k_NoHouse⟩
  split at h
  · rename_i e; subst e; cases h; exact ⟨.ref D_NoLine, .ref D_NoLine, .inl m_NoLine, rfl, fun u r => r, k_NoLine⟩
  split at h
  · rename_i e; subst e; cases h; exact ⟨.ref D_BadWord, .ref D_BadWord, .inl m_BadWord, rfl, fun u r => r, k_BadWord⟩
  split at h
  · rename_i e; subst e; cases h; exact ⟨.ref D_Unlike, .ref D_Unlike, .inl m_Unlike, rfl, fun u r => r, k_Unlike⟩
  split at h
  · rename_i e; subst e; cases h; exact ⟨.ty "ValueError", .type "ValueError", .inr ⟨mV, by decide +kernel⟩, rfl, fun u r => r, kV⟩
  cases h
theorem F_Twice {P : Program} {w : World} {K : PySem.W.Frag} {mg : Str → Option Value} {base : Heap} {D : Addr} (C : ExcC K D) (V : ValOk mg K D val_Twice)
    {D_ThrongError : Addr} (mT_ThrongError : mg "ThrongError" = some (.ref D_ThrongError)) (xT_ThrongError : PySem.W.exmOne K (.ref D) (.ref D_ThrongError) = some true)
    {fw0 : Addr} {fd0 : FuncData} (FW0 : Fun K "_law_word" "_law_word" stW0 fw0 fd0) (blt : mg "isinstance" = none) (mw0 : mg "_law_word" = some (.ref fw0)) (bw0 : Binds K fd0 ["e"] [])
    : XFact ex mg P w K base "Twice" D := by
  refine ⟨C, V, fun T b h cT hT => ?_, fun f z h => ?_⟩
  · replace h : cat_Twice T = some b := h
    unfold cat_Twice at h
    split at h
    · rename_i e; subst e; cases h; have e2 := hT.symm.trans mT_ThrongError; cases e2; exact xT_ThrongError
    cases h
  · replace h : wd_Twice f = some z := h
    unfold wd_Twice at h
    split at h
    · rename_i e; subst e; cases h; exact ⟨fw0, _, _, word_fn (k := 0) FW0 fsW0 rfl rfl okW0 blt C V ev0_Twice (by decide) (by decide), mw0, FW0.kp, bw0⟩
    cases h
set_option maxHeartbeats 0 in
theorem all_mk {l : PySem.W.OpenLaw} {w : World} {K : PySem.W.Frag} {h : Heap} {mg : Str → Option Value} {fa : Addr} (X : K.In h) (G : h.Ns mainGlobals mg) (hfa : mg "law" = some (.ref fa)) (nl : noList K = true)
    {f0 : Addr} {od0 an0 : Option Addr} {sl0 : Array (Option Value)} {oc0 kV0 dc0 pm0 cd0 ct0 : Value} (a0 : PySem.W.nsIn K mainGlobals "_law_cell_at" = some (some (.ref f0))) (l0 : K.lookup f0 = some ⟨oc0, od0, .func (PySem.W.fnOf "_law_cell_at" "_law_cell_at" (defArgs st0) (defBody st0) (defScope st0) .none kV0 dc0 pm0 an0 cd0 ct0), sl0⟩) (c0 : PySem.W.codeIn K cd0 "_law_cell_at" = true) (k0 : PySem.W.keepIn K (.ref f0) = true)
    {f1 : Addr} {od1 an1 : Option Addr} {sl1 : Array (Option Value)} {oc1 kV1 dc1 pm1 cd1 ct1 : Value} (a1 : PySem.W.nsIn K mainGlobals "_law_stream" = some (some (.ref f1))) (l1 : K.lookup f1 = some ⟨oc1, od1, .func (PySem.W.fnOf "_law_stream" "_law_stream" (defArgs st1) (defBody st1) (defScope st1) .none kV1 dc1 pm1 an1 cd1 ct1), sl1⟩) (c1 : PySem.W.codeIn K cd1 "_law_stream" = true) (k1 : PySem.W.keepIn K (.ref f1) = true)
    {f2 : Addr} {od2 an2 : Option Addr} {sl2 : Array (Option Value)} {oc2 kV2 dc2 pm2 cd2 ct2 : Value} (a2 : PySem.W.nsIn K mainGlobals "_law_names" = some (some (.ref f2))) (l2 : K.lookup f2 = some ⟨oc2, od2, .func (PySem.W.fnOf "_law_names" "_law_names" (defArgs st2) (defBody st2) (defScope st2) .none kV2 dc2 pm2 an2 cd2 ct2), sl2⟩) (c2 : PySem.W.codeIn K cd2 "_law_names" = true) (k2 : PySem.W.keepIn K (.ref f2) = true)
    {f3 : Addr} {od3 an3 : Option Addr} {sl3 : Array (Option Value)} {oc3 kV3 dc3 pm3 cd3 ct3 : Value} (a3 : PySem.W.nsIn K mainGlobals "_law_row" = some (some (.ref f3))) (l3 : K.lookup f3 = some ⟨oc3, od3, .func (PySem.W.fnOf "_law_row" "_law_row" (defArgs st3) (defBody st3) (defScope st3) .none kV3 dc3 pm3 an3 cd3 ct3), sl3⟩) (c3 : PySem.W.codeIn K cd3 "_law_row" = true) (k3 : PySem.W.keepIn K (.ref f3) = true)
    {f4 : Addr} {od4 an4 : Option Addr} {sl4 : Array (Option Value)} {oc4 kV4 dc4 pm4 cd4 ct4 : Value} (a4 : PySem.W.nsIn K mainGlobals "_law_signs" = some (some (.ref f4))) (l4 : K.lookup f4 = some ⟨oc4, od4, .func (PySem.W.fnOf "_law_signs" "_law_signs" (defArgs st4) (defBody st4) (defScope st4) .none kV4 dc4 pm4 an4 cd4 ct4), sl4⟩) (c4 : PySem.W.codeIn K cd4 "_law_signs" = true) (k4 : PySem.W.keepIn K (.ref f4) = true)
    {f5 : Addr} {od5 an5 : Option Addr} {sl5 : Array (Option Value)} {oc5 kV5 dc5 pm5 cd5 ct5 : Value} (a5 : PySem.W.nsIn K mainGlobals "_law_parts" = some (some (.ref f5))) (l5 : K.lookup f5 = some ⟨oc5, od5, .func (PySem.W.fnOf "_law_parts" "_law_parts" (defArgs st5) (defBody st5) (defScope st5) .none kV5 dc5 pm5 an5 cd5 ct5), sl5⟩) (c5 : PySem.W.codeIn K cd5 "_law_parts" = true) (k5 : PySem.W.keepIn K (.ref f5) = true)
    {f6 : Addr} {od6 an6 : Option Addr} {sl6 : Array (Option Value)} {oc6 kV6 dc6 pm6 cd6 ct6 : Value} (a6 : PySem.W.nsIn K mainGlobals "field_span" = some (some (.ref f6))) (l6 : K.lookup f6 = some ⟨oc6, od6, .func (PySem.W.fnOf "field_span" "field_span" (defArgs st6) (defBody st6) (defScope st6) .none kV6 dc6 pm6 an6 cd6 ct6), sl6⟩) (c6 : PySem.W.codeIn K cd6 "field_span" = true) (k6 : PySem.W.keepIn K (.ref f6) = true)
    {f7 : Addr} {od7 an7 : Option Addr} {sl7 : Array (Option Value)} {oc7 kV7 dc7 pm7 cd7 ct7 : Value} (a7 : PySem.W.nsIn K mainGlobals "is_row" = some (some (.ref f7))) (l7 : K.lookup f7 = some ⟨oc7, od7, .func (PySem.W.fnOf "is_row" "is_row" (defArgs st7) (defBody st7) (defScope st7) .none kV7 dc7 pm7 an7 cd7 ct7), sl7⟩) (c7 : PySem.W.codeIn K cd7 "is_row" = true) (k7 : PySem.W.keepIn K (.ref f7) = true)
    {f8 : Addr} {od8 an8 : Option Addr} {sl8 : Array (Option Value)} {oc8 kV8 dc8 pm8 cd8 ct8 : Value} (a8 : PySem.W.nsIn K mainGlobals "field_row" = some (some (.ref f8))) (l8 : K.lookup f8 = some ⟨oc8, od8, .func (PySem.W.fnOf "field_row" "field_row" (defArgs st8) (defBody st8) (defScope st8) .none kV8 dc8 pm8 an8 cd8 ct8), sl8⟩) (c8 : PySem.W.codeIn K cd8 "field_row" = true) (k8 : PySem.W.keepIn K (.ref f8) = true)
    {f9 : Addr} {od9 an9 : Option Addr} {sl9 : Array (Option Value)} {oc9 kV9 dc9 pm9 cd9 ct9 : Value} (a9 : PySem.W.nsIn K mainGlobals "_law_is_row" = some (some (.ref f9))) (l9 : K.lookup f9 = some ⟨oc9, od9, .func (PySem.W.fnOf "_law_is_row" "_law_is_row" (defArgs st9) (defBody st9) (defScope st9) .none kV9 dc9 pm9 an9 cd9 ct9), sl9⟩) (c9 : PySem.W.codeIn K cd9 "_law_is_row" = true) (k9 : PySem.W.keepIn K (.ref f9) = true)
    {f10 : Addr} {od10 an10 : Option Addr} {sl10 : Array (Option Value)} {oc10 kV10 dc10 pm10 cd10 ct10 : Value} (a10 : PySem.W.nsIn K mainGlobals "_law_due" = some (some (.ref f10))) (l10 : K.lookup f10 = some ⟨oc10, od10, .func (PySem.W.fnOf "_law_due" "_law_due" (defArgs st10) (defBody st10) (defScope st10) .none kV10 dc10 pm10 an10 cd10 ct10), sl10⟩) (c10 : PySem.W.codeIn K cd10 "_law_due" = true) (k10 : PySem.W.keepIn K (.ref f10) = true)
    {f11 : Addr} {od11 an11 : Option Addr} {sl11 : Array (Option Value)} {oc11 kV11 dc11 pm11 cd11 ct11 : Value} (a11 : PySem.W.nsIn K mainGlobals "law" = some (some (.ref f11))) (l11 : K.lookup f11 = some ⟨oc11, od11, .func (PySem.W.fnOf "law" "law" (defArgs st11) (defBody st11) (defScope st11) .none kV11 dc11 pm11 an11 cd11 ct11), sl11⟩) (c11 : PySem.W.codeIn K cd11 "law" = true) (k11 : PySem.W.keepIn K (.ref f11) = true)
    {fW0 : Addr} {odW0 anW0 : Option Addr} {slW0 : Array (Option Value)} {ocW0 kVW0 dcW0 pmW0 cdW0 ctW0 : Value} (aW0 : PySem.W.nsIn K mainGlobals "_law_word" = some (some (.ref fW0))) (lW0 : K.lookup fW0 = some ⟨ocW0, odW0, .func (PySem.W.fnOf "_law_word" "_law_word" (defArgs stW0) (defBody stW0) (defScope stW0) .none kVW0 dcW0 pmW0 anW0 cdW0 ctW0), slW0⟩) (cW0 : PySem.W.codeIn K cdW0 "_law_word" = true) (kW0 : PySem.W.keepIn K (.ref fW0) = true)
    {D_Misfit : Addr} (aD_Misfit : PySem.W.nsIn K mainGlobals "Misfit" = some (some (.ref D_Misfit)))
    {D_NoField : Addr} (aD_NoField : PySem.W.nsIn K mainGlobals "NoField" = some (some (.ref D_NoField)))
    {D_Twice : Addr} (aD_Twice : PySem.W.nsIn K mainGlobals "Twice" = some (some (.ref D_Twice)))
    {D_NoRule : Addr} (aD_NoRule : PySem.W.nsIn K mainGlobals "NoRule" = some (some (.ref D_NoRule)))
    {D_NoWay : Addr} (aD_NoWay : PySem.W.nsIn K mainGlobals "NoWay" = some (some (.ref D_NoWay)))
    {D_NoDoor : Addr} (aD_NoDoor : PySem.W.nsIn K mainGlobals "NoDoor" = some (some (.ref D_NoDoor)))
    {D_NoHouse : Addr} (aD_NoHouse : PySem.W.nsIn K mainGlobals "NoHouse" = some (some (.ref D_NoHouse)))
    {D_NoLine : Addr} (aD_NoLine : PySem.W.nsIn K mainGlobals "NoLine" = some (some (.ref D_NoLine)))
    {D_BadWord : Addr} (aD_BadWord : PySem.W.nsIn K mainGlobals "BadWord" = some (some (.ref D_BadWord)))
    {D_Unlike : Addr} (aD_Unlike : PySem.W.nsIn K mainGlobals "Unlike" = some (some (.ref D_Unlike)))
    {D_ThrongError : Addr} (aD_ThrongError : PySem.W.nsIn K mainGlobals "ThrongError" = some (some (.ref D_ThrongError)))
    (zV : PySem.W.nsIn K mainGlobals "ValueError" = some none)
    (x6 : PySem.W.specialIn K (.builtin "object.__class__") "__get__" = some (some (.builtin "getset_descriptor.__get__"))) (x7 : PySem.W.takesIn K (.builtin "object.__class__") = some true)
    (kD_Misfit_Misfit : PySem.W.kitOne K (.ref D_Misfit) (.ref D_Misfit) = some true)
    (kD_Misfit_Twice : PySem.W.kitOne K (.ref D_Misfit) (.ref D_Twice) = some false)
    (kD_Misfit_NoField : PySem.W.kitOne K (.ref D_Misfit) (.ref D_NoField) = some false)
    (kD_Misfit_NoRule : PySem.W.kitOne K (.ref D_Misfit) (.ref D_NoRule) = some false)
    (kD_Misfit_NoWay : PySem.W.kitOne K (.ref D_Misfit) (.ref D_NoWay) = some false)
    (kD_Misfit_NoDoor : PySem.W.kitOne K (.ref D_Misfit) (.ref D_NoDoor) = some false)
    (kD_Misfit_NoHouse : PySem.W.kitOne K (.ref D_Misfit) (.ref D_NoHouse) = some false)
    (kD_Misfit_NoLine : PySem.W.kitOne K (.ref D_Misfit) (.ref D_NoLine) = some false)
    (kD_Misfit_BadWord : PySem.W.kitOne K (.ref D_Misfit) (.ref D_BadWord) = some false)
    (kD_Misfit_Unlike : PySem.W.kitOne K (.ref D_Misfit) (.ref D_Unlike) = some false)
    (kV_Misfit : PySem.W.kitOne K (.ref D_Misfit) (.type "ValueError") = some true)
    (xT_Misfit_ThrongError : PySem.W.exmOne K (.ref D_Misfit) (.ref D_ThrongError) = some true)
    (x1_Misfit : PySem.W.findIn K (.ref D_Misfit) "__getattribute__" = some (some (.builtin "BaseException.__getattribute__")))
    (x2_Misfit : PySem.W.findIn K (.ref D_Misfit) "__getattr__" = some none)
    (x3_Misfit : PySem.W.subIn K (.ref D_Misfit) (.type "BaseException") = some true)
    (x4_Misfit : PySem.W.hasDictIn K D_Misfit = true)
    (x5_Misfit : PySem.W.findIn K (.ref D_Misfit) "__class__" = some (some (.builtin "object.__class__")))
    (x8_Misfit : PySem.W.mroIn K D_Misfit (.type "object") = some true)
    (x9_Misfit : PySem.W.excIn K D_Misfit [.type "ValueError", .type "Exception", .type "BaseException", .type "object"] "ValueError.__new__" = true)
    (x10_Misfit : PySem.W.keepIn K (.ref D_Misfit) = true)
    (x11_Misfit : PySem.W.typeIn K (.ref D_Misfit) = some (.type "type"))
    (kD_NoField_Misfit : PySem.W.kitOne K (.ref D_NoField) (.ref D_Misfit) = some false)
    (kD_NoField_Twice : PySem.W.kitOne K (.ref D_NoField) (.ref D_Twice) = some false)
    (kD_NoField_NoField : PySem.W.kitOne K (.ref D_NoField) (.ref D_NoField) = some true)
    (kD_NoField_NoRule : PySem.W.kitOne K (.ref D_NoField) (.ref D_NoRule) = some false)
    (kD_NoField_NoWay : PySem.W.kitOne K (.ref D_NoField) (.ref D_NoWay) = some false)
    (kD_NoField_NoDoor : PySem.W.kitOne K (.ref D_NoField) (.ref D_NoDoor) = some false)
    (kD_NoField_NoHouse : PySem.W.kitOne K (.ref D_NoField) (.ref D_NoHouse) = some false)
    (kD_NoField_NoLine : PySem.W.kitOne K (.ref D_NoField) (.ref D_NoLine) = some false)
    (kD_NoField_BadWord : PySem.W.kitOne K (.ref D_NoField) (.ref D_BadWord) = some false)
    (kD_NoField_Unlike : PySem.W.kitOne K (.ref D_NoField) (.ref D_Unlike) = some false)
    (kV_NoField : PySem.W.kitOne K (.ref D_NoField) (.type "ValueError") = some true)
    (xT_NoField_ThrongError : PySem.W.exmOne K (.ref D_NoField) (.ref D_ThrongError) = some true)
    (x1_NoField : PySem.W.findIn K (.ref D_NoField) "__getattribute__" = some (some (.builtin "BaseException.__getattribute__")))
    (x2_NoField : PySem.W.findIn K (.ref D_NoField) "__getattr__" = some none)
    (x3_NoField : PySem.W.subIn K (.ref D_NoField) (.type "BaseException") = some true)
    (x4_NoField : PySem.W.hasDictIn K D_NoField = true)
    (x5_NoField : PySem.W.findIn K (.ref D_NoField) "__class__" = some (some (.builtin "object.__class__")))
    (x8_NoField : PySem.W.mroIn K D_NoField (.type "object") = some true)
    (x9_NoField : PySem.W.excIn K D_NoField [.type "ValueError", .type "Exception", .type "BaseException", .type "object"] "ValueError.__new__" = true)
    (x10_NoField : PySem.W.keepIn K (.ref D_NoField) = true)
    (x11_NoField : PySem.W.typeIn K (.ref D_NoField) = some (.type "type"))
    (kD_Twice_Misfit : PySem.W.kitOne K (.ref D_Twice) (.ref D_Misfit) = some false)
    (kD_Twice_Twice : PySem.W.kitOne K (.ref D_Twice) (.ref D_Twice) = some true)
    (kD_Twice_NoField : PySem.W.kitOne K (.ref D_Twice) (.ref D_NoField) = some false)
    (kD_Twice_NoRule : PySem.W.kitOne K (.ref D_Twice) (.ref D_NoRule) = some false)
    (kD_Twice_NoWay : PySem.W.kitOne K (.ref D_Twice) (.ref D_NoWay) = some false)
    (kD_Twice_NoDoor : PySem.W.kitOne K (.ref D_Twice) (.ref D_NoDoor) = some false)
    (kD_Twice_NoHouse : PySem.W.kitOne K (.ref D_Twice) (.ref D_NoHouse) = some false)
    (kD_Twice_NoLine : PySem.W.kitOne K (.ref D_Twice) (.ref D_NoLine) = some false)
    (kD_Twice_BadWord : PySem.W.kitOne K (.ref D_Twice) (.ref D_BadWord) = some false)
    (kD_Twice_Unlike : PySem.W.kitOne K (.ref D_Twice) (.ref D_Unlike) = some false)
    (kV_Twice : PySem.W.kitOne K (.ref D_Twice) (.type "ValueError") = some true)
    (xT_Twice_ThrongError : PySem.W.exmOne K (.ref D_Twice) (.ref D_ThrongError) = some true)
    (x1_Twice : PySem.W.findIn K (.ref D_Twice) "__getattribute__" = some (some (.builtin "BaseException.__getattribute__")))
    (x2_Twice : PySem.W.findIn K (.ref D_Twice) "__getattr__" = some none)
    (x3_Twice : PySem.W.subIn K (.ref D_Twice) (.type "BaseException") = some true)
    (x4_Twice : PySem.W.hasDictIn K D_Twice = true)
    (x5_Twice : PySem.W.findIn K (.ref D_Twice) "__class__" = some (some (.builtin "object.__class__")))
    (x8_Twice : PySem.W.mroIn K D_Twice (.type "object") = some true)
    (x9_Twice : PySem.W.excIn K D_Twice [.type "ValueError", .type "Exception", .type "BaseException", .type "object"] "ValueError.__new__" = true)
    (x10_Twice : PySem.W.keepIn K (.ref D_Twice) = true)
    (x11_Twice : PySem.W.typeIn K (.ref D_Twice) = some (.type "type"))
    (z_len : PySem.W.nsIn K mainGlobals "len" = some none)
    (z_list : PySem.W.nsIn K mainGlobals "list" = some none)
    (z_tuple : PySem.W.nsIn K mainGlobals "tuple" = some none)
    (z_sum : PySem.W.nsIn K mainGlobals "sum" = some none)
    (z_min : PySem.W.nsIn K mainGlobals "min" = some none)
    (z_max : PySem.W.nsIn K mainGlobals "max" = some none)
    (z_int : PySem.W.nsIn K mainGlobals "int" = some none)
    (z_any : PySem.W.nsIn K mainGlobals "any" = some none)
    (z_all : PySem.W.nsIn K mainGlobals "all" = some none)
    (z_sorted : PySem.W.nsIn K mainGlobals "sorted" = some none)
    (z_isinstance : PySem.W.nsIn K mainGlobals "isinstance" = some none)
    (z_range : PySem.W.nsIn K mainGlobals "range" = some none)
    (z_zip : PySem.W.nsIn K mainGlobals "zip" = some none)
    (z_enumerate : PySem.W.nsIn K mainGlobals "enumerate" = some none)
    (z_reversed : PySem.W.nsIn K mainGlobals "reversed" = some none)
    (z_str : PySem.W.nsIn K mainGlobals "str" = some none)
    (z_bool : PySem.W.nsIn K mainGlobals "bool" = some none)
    (z_set : PySem.W.nsIn K mainGlobals "set" = some none)
    (z_dict : PySem.W.nsIn K mainGlobals "dict" = some none)
    : ∃ fd : FuncData, (∀ (s : Shared) (v : Value), BindsTo s fd ⟨[v], []⟩ [("script", v)]) ∧ ∀ base : Heap, K.In base → base.Ns mainGlobals mg → FnOk l.prog w K mg base (L2.CX l.prog w) 36 fa fd ["script"] (spLaw K) := by
  have F0 := fun_mk (st := st0) l0 c0 k0
  have h0 : Has K mg "_law_cell_at" st0 ["script", "k"] := ⟨f0, _, F0, PySem.W.mg_of X G a0, F0.binds (ps := ["script", "k"]) fun _ _ _ _ _ _ us hl => match us, hl with | [_, _], _ => rfl⟩
  have F1 := fun_mk (st := st1) l1 c1 k1
  have h1 : Has K mg "_law_stream" st1 ["cell", "many"] := ⟨f1, _, F1, PySem.W.mg_of X G a1, F1.binds (ps := ["cell", "many"]) fun _ _ _ _ _ _ us hl => match us, hl with | [_, _], _ => rfl⟩
  have F2 := fun_mk (st := st2) l2 c2 k2
  have h2 : Has K mg "_law_names" st2 ["cell", "many"] := ⟨f2, _, F2, PySem.W.mg_of X G a2, F2.binds (ps := ["cell", "many"]) fun _ _ _ _ _ _ us hl => match us, hl with | [_, _], _ => rfl⟩
  have F3 := fun_mk (st := st3) l3 c3 k3
  have h3 : Has K mg "_law_row" st3 ["cell", "width", "loose"] := ⟨f3, _, F3, PySem.W.mg_of X G a3, F3.binds (ps := ["cell", "width", "loose"]) fun _ _ _ _ _ _ us hl => match us, hl with | [_, _, _], _ => rfl⟩
  have F4 := fun_mk (st := st4) l4 c4 k4
  have h4 : Has K mg "_law_signs" st4 ["cell", "size"] := ⟨f4, _, F4, PySem.W.mg_of X G a4, F4.binds (ps := ["cell", "size"]) fun _ _ _ _ _ _ us hl => match us, hl with | [_, _], _ => rfl⟩
  have F5 := fun_mk (st := st5) l5 c5 k5
  have h5 : Has K mg "_law_parts" st5 ["cells", "names", "sizes"] := ⟨f5, _, F5, PySem.W.mg_of X G a5, F5.binds (ps := ["cells", "names", "sizes"]) fun _ _ _ _ _ _ us hl => match us, hl with | [_, _, _], _ => rfl⟩
  have F6 := fun_mk (st := st6) l6 c6 k6
  have h6 : Has K mg "field_span" st6 ["layout", "name"] := ⟨f6, _, F6, PySem.W.mg_of X G a6, F6.binds (ps := ["layout", "name"]) fun _ _ _ _ _ _ us hl => match us, hl with | [_, _], _ => rfl⟩
  have F7 := fun_mk (st := st7) l7 c7 k7
  have h7 : Has K mg "is_row" st7 ["thing", "width"] := ⟨f7, _, F7, PySem.W.mg_of X G a7, F7.binds (ps := ["thing", "width"]) fun _ _ _ _ _ _ us hl => match us, hl with | [_, _], _ => rfl⟩
  have F8 := fun_mk (st := st8) l8 c8 k8
  have h8 : Has K mg "field_row" st8 ["layout", "parts"] := ⟨f8, _, F8, PySem.W.mg_of X G a8, F8.binds (ps := ["layout", "parts"]) fun _ _ _ _ _ _ us hl => match us, hl with | [_, _], _ => rfl⟩
  have F9 := fun_mk (st := st9) l9 c9 k9
  have h9 : Has K mg "_law_is_row" st9 ["found", "width"] := ⟨f9, _, F9, PySem.W.mg_of X G a9, F9.binds (ps := ["found", "width"]) fun _ _ _ _ _ _ us hl => match us, hl with | [_, _], _ => rfl⟩
  have F10 := fun_mk (st := st10) l10 c10 k10
  have h10 : Has K mg "_law_due" st10 ["layout", "parts"] := ⟨f10, _, F10, PySem.W.mg_of X G a10, F10.binds (ps := ["layout", "parts"]) fun _ _ _ _ _ _ us hl => match us, hl with | [_, _], _ => rfl⟩
  have F11 := fun_mk (st := st11) l11 c11 k11
  have h11 : Has K mg "law" st11 ["script"] := ⟨f11, _, F11, PySem.W.mg_of X G a11, F11.binds (ps := ["script"]) fun _ _ _ _ _ _ us hl => match us, hl with | [_], _ => rfl⟩
  have FW0 := fun_mk (st := stW0) lW0 cW0 kW0
  have bW0 := FW0.binds (ps := ["e"]) fun _ _ _ _ _ _ us hl => match us, hl with | [_], _ => rfl
  have C_Misfit : ExcC K D_Misfit := ⟨x1_Misfit, x2_Misfit, x3_Misfit, x4_Misfit, x5_Misfit, x6, x7, x8_Misfit⟩
  have VV_Misfit : ValOk mg K D_Misfit val_Misfit := V_Misfit (PySem.W.mg_of X G aD_Misfit) kD_Misfit_Misfit (PySem.W.mg_of X G aD_Twice) kD_Misfit_Twice (PySem.W.mg_of X G aD_NoField) kD_Misfit_NoField (PySem.W.mg_of X G aD_NoRule) kD_Misfit_NoRule (PySem.W.mg_of X G aD_NoWay) kD_Misfit_NoWay (PySem.W.mg_of X G aD_NoDoor) kD_Misfit_NoDoor (PySem.W.mg_of X G aD_NoHouse) kD_Misfit_NoHouse (PySem.W.mg_of X G aD_NoLine) kD_Misfit_NoLine (PySem.W.mg_of X G aD_BadWord) kD_Misfit_BadWord (PySem.W.mg_of X G aD_Unlike) kD_Misfit_Unlike (PySem.W.mg_none_of X G zV) kV_Misfit
  have C_NoField : ExcC K D_NoField := ⟨x1_NoField, x2_NoField, x3_NoField, x4_NoField, x5_NoField, x6, x7, x8_NoField⟩
  have VV_NoField : ValOk mg K D_NoField val_NoField := V_NoField (PySem.W.mg_of X G aD_Misfit) kD_NoField_Misfit (PySem.W.mg_of X G aD_Twice) kD_NoField_Twice (PySem.W.mg_of X G aD_NoField) kD_NoField_NoField (PySem.W.mg_of X G aD_NoRule) kD_NoField_NoRule (PySem.W.mg_of X G aD_NoWay) kD_NoField_NoWay (PySem.W.mg_of X G aD_NoDoor) kD_NoField_NoDoor (PySem.W.mg_of X G aD_NoHouse) kD_NoField_NoHouse (PySem.W.mg_of X G aD_NoLine) kD_NoField_NoLine (PySem.W.mg_of X G aD_BadWord) kD_NoField_BadWord (PySem.W.mg_of X G aD_Unlike) kD_NoField_Unlike (PySem.W.mg_none_of X G zV) kV_NoField
  have C_Twice : ExcC K D_Twice := ⟨x1_Twice, x2_Twice, x3_Twice, x4_Twice, x5_Twice, x6, x7, x8_Twice⟩
  have VV_Twice : ValOk mg K D_Twice val_Twice := V_Twice (PySem.W.mg_of X G aD_Misfit) kD_Twice_Misfit (PySem.W.mg_of X G aD_Twice) kD_Twice_Twice (PySem.W.mg_of X G aD_NoField) kD_Twice_NoField (PySem.W.mg_of X G aD_NoRule) kD_Twice_NoRule (PySem.W.mg_of X G aD_NoWay) kD_Twice_NoWay (PySem.W.mg_of X G aD_NoDoor) kD_Twice_NoDoor (PySem.W.mg_of X G aD_NoHouse) kD_Twice_NoHouse (PySem.W.mg_of X G aD_NoLine) kD_Twice_NoLine (PySem.W.mg_of X G aD_BadWord) kD_Twice_BadWord (PySem.W.mg_of X G aD_Unlike) kD_Twice_Unlike (PySem.W.mg_none_of X G zV) kV_Twice
  have blt : Blt mg := fun f hf => by
    simp only [List.mem_cons, List.mem_nil_iff, or_false] at hf
    rcases hf with rfl | rfl | rfl | rfl | rfl | rfl | rfl | rfl | rfl | rfl | rfl | rfl | rfl | rfl | rfl | rfl | rfl | rfl | rfl
    · exact PySem.W.mg_none_of X G z_len
    · exact PySem.W.mg_none_of X G z_list
    · exact PySem.W.mg_none_of X G z_tuple
    · exact PySem.W.mg_none_of X G z_sum
    · exact PySem.W.mg_none_of X G z_min
    · exact PySem.W.mg_none_of X G z_max
    · exact PySem.W.mg_none_of X G z_int
    · exact PySem.W.mg_none_of X G z_any
    · exact PySem.W.mg_none_of X G z_all
    · exact PySem.W.mg_none_of X G z_sorted
    · exact PySem.W.mg_none_of X G z_isinstance
    · exact PySem.W.mg_none_of X G z_range
    · exact PySem.W.mg_none_of X G z_zip
    · exact PySem.W.mg_none_of X G z_enumerate
    · exact PySem.W.mg_none_of X G z_reversed
    · exact PySem.W.mg_none_of X G z_str
    · exact PySem.W.mg_none_of X G z_bool
    · exact PySem.W.mg_none_of X G z_set
    · exact PySem.W.mg_none_of X G z_dict
  have e := hfa.symm.trans (PySem.W.mg_of X G a11)
  cases e
  have rzx : ∀ base : Heap, RzOk ex mg l.prog w K base := fun base => by
    have G_Misfit : XFact ex mg l.prog w K base "Misfit" D_Misfit := F_Misfit C_Misfit VV_Misfit (PySem.W.mg_of X G aD_ThrongError) xT_Misfit_ThrongError FW0 (blt _ (by decide)) (PySem.W.mg_of X G aW0) bW0
    have G_NoField : XFact ex mg l.prog w K base "NoField" D_NoField := F_NoField C_NoField VV_NoField (PySem.W.mg_of X G aD_ThrongError) xT_NoField_ThrongError FW0 (blt _ (by decide)) (PySem.W.mg_of X G aW0) bW0
    have G_Twice : XFact ex mg l.prog w K base "Twice" D_Twice := F_Twice C_Twice VV_Twice (PySem.W.mg_of X G aD_ThrongError) xT_Twice_ThrongError FW0 (blt _ (by decide)) (PySem.W.mg_of X G aW0) bW0
    exact rz_mk (all_cons (rz_at PySem.F.excBase_ValueError x9_Misfit (PySem.W.mg_of X G aD_Misfit) x10_Misfit x3_Misfit x11_Misfit (by decide)) (all_cons (rz_at PySem.F.excBase_ValueError x9_NoField (PySem.W.mg_of X G aD_NoField) x10_NoField x3_NoField x11_NoField (by decide)) (all_cons (rz_at PySem.F.excBase_ValueError x9_Twice (PySem.W.mg_of X G aD_Twice) x10_Twice x3_Twice x11_Twice (by decide)) (all_nil)))) (all_cons (⟨_, PySem.W.mg_of X G aD_ThrongError⟩) (all_nil)) (all_cons (xf_of (PySem.W.mg_of X G aD_Misfit) G_Misfit) (all_cons (xf_of (PySem.W.mg_of X G aD_NoField) G_NoField) (all_cons (xf_of (PySem.W.mg_of X G aD_Twice) G_Twice) (all_nil))))
  refine ⟨_, fun s v => .of_eq rfl, fun base _ _ => law_one (fn_ok F11 fs11 mf11 (by decide) (by decide) fu11 (ok_and ok11) blt (fns h0 h1 h2 h3 h4 h5 h6 h7 h8 h9 h10 (rzx base) blt) (rzx base)) nl rfl law_true⟩
end K16
open PySem PySem.W PyProof.Rows
set_option maxHeartbeats 0 in
theorem PySem.Challenge.cw_throng_k16_rows_by_fields_holds : PySem.Challenge.rw_throng_k16_rows_by_fields.Holds := by
  w_on; o_law; k_head; (case hw => w_witness2)
  k_fill
  refine L2.walk_of (l := PySem.Challenge.rw_throng_k16_rows_by_fields) (n := 63) (k := 36) (x := "script") (CX := fun w => L2.CX PySem.Challenge.rw_throng_k16_rows_by_fields.prog w) (sp := fun w => En.spLaw _) rfl (by decide) rfl ⟨rfl, by decide, by decide⟩ (fun w h Y => PySem.W.kIn_of Y) ?F (fun _ _ a ns hl hO hS => ⟨a, ns, rfl, hS, hl, hO, fun _ => rfl⟩) (fun _ _ _ _ _ h => En.cx_end h)
  case F =>
    intro w mg fa h KX G hmg
    refine' K16.all_mk KX G hmg ?nl ?a0 ?l0 ?c0 ?k0 ?a1 ?l1 ?c1 ?k1 ?a2 ?l2 ?c2 ?k2 ?a3 ?l3 ?c3 ?k3 ?a4 ?l4 ?c4 ?k4 ?a5 ?l5 ?c5 ?k5 ?a6 ?l6 ?c6 ?k6 ?a7 ?l7 ?c7 ?k7 ?a8 ?l8 ?c8 ?k8 ?a9 ?l9 ?c9 ?k9 ?a10 ?l10 ?c10 ?k10 ?a11 ?l11 ?c11 ?k11 ?aW0 ?lW0 ?cW0 ?kW0 ?aD_Misfit ?aD_NoField ?aD_Twice ?aD_NoRule ?aD_NoWay ?aD_NoDoor ?aD_NoHouse ?aD_NoLine ?aD_BadWord ?aD_Unlike ?aD_ThrongError ?zV ?x6 ?x7 ?kD_Misfit_Misfit ?kD_Misfit_Twice ?kD_Misfit_NoField ?kD_Misfit_NoRule ?kD_Misfit_NoWay ?kD_Misfit_NoDoor ?kD_Misfit_NoHouse ?kD_Misfit_NoLine ?kD_Misfit_BadWord ?kD_Misfit_Unlike ?kV_Misfit ?xT_Misfit_ThrongError ?x1_Misfit ?x2_Misfit ?x3_Misfit ?x4_Misfit ?x5_Misfit ?x8_Misfit ?x9_Misfit ?x10_Misfit ?x11_Misfit ?kD_NoField_Misfit ?kD_NoField_Twice ?kD_NoField_NoField ?kD_NoField_NoRule ?kD_NoField_NoWay ?kD_NoField_NoDoor ?kD_NoField_NoHouse ?kD_NoField_NoLine ?kD_NoField_BadWord ?kD_NoField_Unlike ?kV_NoField ?xT_NoField_ThrongError ?x1_NoField ?x2_NoField ?x3_NoField ?x4_NoField ?x5_NoField ?x8_NoField ?x9_NoField ?x10_NoField ?x11_NoField ?kD_Twice_Misfit ?kD_Twice_Twice ?kD_Twice_NoField ?kD_Twice_NoRule ?kD_Twice_NoWay ?kD_Twice_NoDoor ?kD_Twice_NoHouse ?kD_Twice_NoLine ?kD_Twice_BadWord ?kD_Twice_Unlike ?kV_Twice ?xT_Twice_ThrongError ?x1_Twice ?x2_Twice ?x3_Twice ?x4_Twice ?x5_Twice ?x8_Twice ?x9_Twice ?x10_Twice ?x11_Twice ?z_len ?z_list ?z_tuple ?z_sum ?z_min ?z_max ?z_int ?z_any ?z_all ?z_sorted ?z_isinstance ?z_range ?z_zip ?z_enumerate ?z_reversed ?z_str ?z_bool ?z_set ?z_dict
    (case a0 => k_is); (case l0 => k_is); (case c0 => k_is); (case k0 => k_is); (case a1 => k_is); (case l1 => k_is); (case c1 => k_is); (case k1 => k_is); (case a2 => k_is); (case l2 => k_is); (case c2 => k_is); (case k2 => k_is); (case a3 => k_is); (case l3 => k_is); (case c3 => k_is); (case k3 => k_is); (case a4 => k_is); (case l4 => k_is); (case c4 => k_is); (case k4 => k_is); (case a5 => k_is); (case l5 => k_is); (case c5 => k_is); (case k5 => k_is); (case a6 => k_is); (case l6 => k_is); (case c6 => k_is); (case k6 => k_is); (case a7 => k_is); (case l7 => k_is); (case c7 => k_is); (case k7 => k_is); (case a8 => k_is); (case l8 => k_is); (case c8 => k_is); (case k8 => k_is); (case a9 => k_is); (case l9 => k_is); (case c9 => k_is); (case k9 => k_is); (case a10 => k_is); (case l10 => k_is); (case c10 => k_is); (case k10 => k_is); (case a11 => k_is); (case l11 => k_is); (case c11 => k_is); (case k11 => k_is); (case aW0 => k_is); (case lW0 => k_is); (case cW0 => k_is); (case kW0 => k_is); (case aD_Misfit => k_is); (case aD_NoField => k_is); (case aD_Twice => k_is); (case aD_NoRule => k_is); (case aD_NoWay => k_is); (case aD_NoDoor => k_is); (case aD_NoHouse => k_is); (case aD_NoLine => k_is); (case aD_BadWord => k_is); (case aD_Unlike => k_is); (case aD_ThrongError => k_is); (case zV => k_is); (case x6 => k_is); (case x7 => k_is); (case kD_Misfit_Misfit => kernel_rfl); (case kD_Misfit_Twice => kernel_rfl); (case kD_Misfit_NoField => kernel_rfl); (case kD_Misfit_NoRule => kernel_rfl); (case kD_Misfit_NoWay => kernel_rfl); (case kD_Misfit_NoDoor => kernel_rfl); (case kD_Misfit_NoHouse => kernel_rfl); (case kD_Misfit_NoLine => kernel_rfl); (case kD_Misfit_BadWord => kernel_rfl); (case kD_Misfit_Unlike => kernel_rfl); (case kV_Misfit => kernel_rfl); (case xT_Misfit_ThrongError => kernel_rfl); (case x1_Misfit => k_is); (case x2_Misfit => k_is); (case x3_Misfit => k_is); (case x4_Misfit => k_is); (case x5_Misfit => k_is); (case x8_Misfit => k_is); (case x9_Misfit => k_exc); (case x10_Misfit => k_is); (case x11_Misfit => k_is); (case kD_NoField_Misfit => kernel_rfl); (case kD_NoField_Twice => kernel_rfl); (case kD_NoField_NoField => kernel_rfl); (case kD_NoField_NoRule => kernel_rfl); (case kD_NoField_NoWay => kernel_rfl); (case kD_NoField_NoDoor => kernel_rfl); (case kD_NoField_NoHouse => kernel_rfl); (case kD_NoField_NoLine => kernel_rfl); (case kD_NoField_BadWord => kernel_rfl); (case kD_NoField_Unlike => kernel_rfl); (case kV_NoField => kernel_rfl); (case xT_NoField_ThrongError => kernel_rfl); (case x1_NoField => k_is); (case x2_NoField => k_is); (case x3_NoField => k_is); (case x4_NoField => k_is); (case x5_NoField => k_is); (case x8_NoField => k_is); (case x9_NoField => k_exc); (case x10_NoField => k_is); (case x11_NoField => k_is); (case kD_Twice_Misfit => kernel_rfl); (case kD_Twice_Twice => kernel_rfl); (case kD_Twice_NoField => kernel_rfl); (case kD_Twice_NoRule => kernel_rfl); (case kD_Twice_NoWay => kernel_rfl); (case kD_Twice_NoDoor => kernel_rfl); (case kD_Twice_NoHouse => kernel_rfl); (case kD_Twice_NoLine => kernel_rfl); (case kD_Twice_BadWord => kernel_rfl); (case kD_Twice_Unlike => kernel_rfl); (case kV_Twice => kernel_rfl); (case xT_Twice_ThrongError => kernel_rfl); (case x1_Twice => k_is); (case x2_Twice => k_is); (case x3_Twice => k_is); (case x4_Twice => k_is); (case x5_Twice => k_is); (case x8_Twice => k_is); (case x9_Twice => k_exc); (case x10_Twice => k_is); (case x11_Twice => k_is); (case z_len => k_is); (case z_list => k_is); (case z_tuple => k_is); (case z_sum => k_is); (case z_min => k_is); (case z_max => k_is); (case z_int => k_is); (case z_any => k_is); (case z_all => k_is); (case z_sorted => k_is); (case z_isinstance => k_is); (case z_range => k_is); (case z_zip => k_is); (case z_enumerate => k_is); (case z_reversed => k_is); (case z_str => k_is); (case z_bool => k_is); (case z_set => k_is); (case z_dict => k_is)
    (case nl => first | kernel_rfl | rfl)
